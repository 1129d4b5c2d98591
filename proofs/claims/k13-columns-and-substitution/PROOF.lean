import PyProof.Rows.All
import Wide.All
import OpenK.AllK
import Wide.FinOn
import KE.SortData
import HandS.ForMost
import HandS.Wide
import HandS.IsInst
import HandS.TupAny
import KE.KDictKeyed
import KE.LtData
import HandS.TupLe
import PyProof.P3Eq
import HandS.Deep
import KE.GoesEnum
import HandS.Iter
import HandS.Dict
import HandS.SortInts
import HandS.Ends
import PyProof.ReprRoads
import PyProof.ReprLen
import HandS.Rev
import KE.KDictSum
import KE.KDictCopyH
import HandS.Style
import HandS.TryOnly
import HandS.GenList
import HandS.SetBool
import HandS.Strs
import PyProof.FString5
import HandS.DictEq
import KE.KExcSuper
import HandS.ForExc
import HandS.TryMany
import HandS.ExcInit
import HandS.ExcOwn
import HandS.ExcSuper
import HandS.ExcIs
import KE.KExcIs
import KE.KIsAll
import HandS.Zip0
import PySem.Challenge.RW_tideweir_k13_columns_and_substitution
set_option Elab.async false
set_option linter.all false
set_option maxRecDepth 100000
set_option maxHeartbeats 1000000
namespace Dn
open PySem PySem.Spec PyProof.Rows L2
abbrev D := PyData
/-- what is written, the program, the world -/
structure Kx where
  K : PySem.W.Frag
  P : Program
  w : World
instance : Coe Kx PySem.W.Frag := ⟨Kx.K⟩
abbrev cxK (X : Cx) : Kx := ⟨X.K, X.prog, X.w⟩
/-- what a slot holds: a datum that stands for good, or a list of one's own (fixed: the def's parameter) -/
inductive Cell where
  | val (d : D)
  | own (fixed : Bool) (d : D)
abbrev Env := List (Option Cell)
abbrev Md (α : Type) := Env → Option (α × Env)
/-- a key of a dict as a datum -/
def keyD : Key → D
  | .inl i => .int i
  | .inr x => .str x
mutual
/-- a datum as a key within tuples -/
def nkOf : D → Option NestedKey
  | .none => some .none
  | .int i => some (.num i)
  | .str x => some (.text x)
  | .tuple xs => (nkAll xs).bind fun ks => some (.tup ks)
  | _ => none
def nkAll : List D → Option (List NestedKey)
  | [] => some []
  | x :: xs => (nkOf x).bind fun k => (nkAll xs).bind fun ks => some (k :: ks)
end
/-- .. of a depth that a dict's key may have -/
def nkD (d : D) : Option NestedKey := (nkOf d).bind fun k => if k.depth ≤ 8 ∧ d.canLay0 = true then some k else none
/-- a dict whose keys are tuples: its one object -/
def dicO (K : Kx) (a : Addr) (xs : List (NestedKey × Addr × V)) : HO := .ext fun h => (a == sysModules) = false ∧ ∃ ys : List (NestedKey × Addr × Value), Paired (fun (p : NestedKey × Addr × V) (q : NestedKey × Addr × Value) => p.1 = q.1 ∧ p.2.1 = q.2.1 ∧ RelV p.2.2 q.2.2) xs ys ∧
  ∃ o es ep, h.get? a = some o ∧ o.ExactDict ∧ o.data = .dict es ep ∧ es.toList = ys.map (entryOfKey (nestedKind K.P K.w)) ∧ (ys.map (·.1)).Nodup
mutual
/-- v stands for the datum d -/
inductive Rp (K : Kx) (H : Hp) : V → D → Prop
  | non : Rp K H .non .none
  | bl (b : Bool) : Rp K H (.bl b) (.bool b)
  | int (i : Int) : Rp K H (.int i) (.int i)
  | str (x : Str) : Rp K H (.str x) (.str x)
  | lst {a : Addr} {vs : List V} {es : List D} (hs : SqL K H a vs) (hr : RpAll K H vs es) : Rp K H (.ref a) (.list es)
  | tup {a : Addr} {vs : List V} {es : List D} (hs : SqT K H a vs) (hr : RpAll K H vs es) : Rp K H (.ref a) (.tuple es)
  | dic {a : Addr} {ob : Obj} {ks : List (Key × V)} {es : List (D × D)} (hs : H a = some (.frz ob (.dK ks))) (hr : RpKV K H ks es) (hne : es ≠ []) : Rp K H (.ref a) (.dict es)
  | dicE {a : Addr} {ob : Obj} (hs : H a = some (.frz ob (.dK []))) : Rp K H (.ref a) (.dict [(.none, .none)])
  | dicN {a : Addr} {xs : List (NestedKey × Addr × V)} {es : List (D × D)} (hs : H a = some (dicO K a xs)) (hr : RpN K H xs es) : Rp K H (.ref a) (.dict es)
inductive RpAll (K : Kx) (H : Hp) : List V → List D → Prop
  | nil : RpAll K H [] []
  | cons {v : V} {vs : List V} {d : D} {es : List D} (h1 : Rp K H v d) (h2 : RpAll K H vs es) : RpAll K H (v :: vs) (d :: es)
inductive RpKV (K : Kx) (H : Hp) : List (Key × V) → List (D × D) → Prop
  | nil : RpKV K H [] []
  | cons {k : Key} {v : V} {ks : List (Key × V)} {d : D} {es : List (D × D)} (h1 : Rp K H v d) (h2 : RpKV K H ks es) : RpKV K H ((k, v) :: ks) ((keyD k, d) :: es)
inductive RpN (K : Kx) (H : Hp) : List (NestedKey × Addr × V) → List (D × D) → Prop
  | nil : RpN K H [] []
  | cons {k : NestedKey} {ka : Addr} {x : V} {dk dv : D} {xs : List (NestedKey × Addr × V)} {es : List (D × D)} (hk : nkD dk = some k) (h1 : Rp K H (.ref ka) dk) (h2 : Rp K H x dv) (h3 : RpN K H xs es) : RpN K H ((k, ka, x) :: xs) ((dk, dv) :: es)
end
mutual
theorem rp_dp {K : Kx} {H : Hp} : ∀ {d : D} {v : V}, Rp K H v d → d.canLay0 = true → Dp K H v d
  | .none, _, h, _ => by cases h; exact .non
  | .bool _, _, h, _ => by cases h; exact .bl _
  | .int _, _, h, _ => by cases h; exact .int _
  | .str _, _, h, _ => by cases h; exact .str _
  | .list es, _, h, c => by
    cases h with
    | lst hs hr => exact .lst hs (rpAll_dp hr (by simpa [PyData.canLay0] using c))
  | .tuple es, _, h, c => by
    cases h with
    | tup hs hr => exact .tup hs (rpAll_dp hr (by simpa [PyData.canLay0] using c))
  | .dict _, _, _, c => by simp [PyData.canLay0] at c
theorem rpAll_dp {K : Kx} {H : Hp} : ∀ {ds : List D} {vs : List V}, RpAll K H vs ds → PyData.canLayAll0 ds = true → DpAll K H vs ds
  | [], _, h, _ => by cases h; exact .nil
  | d :: ds, _, h, c => by
    have c' : d.canLay0 = true ∧ PyData.canLayAll0 ds = true := by simpa [PyData.canLayAll0] using c
    cases h with
    | cons h1 h2 => exact .cons (rp_dp h1 c'.1) (rpAll_dp h2 c'.2)
end
theorem seqT_same {K : Kx} {H H' : Hp} {a : Addr} {xs : List V} (e : Same H H') (h : SqT K H a xs) : SqT K H' a xs := by
  rcases h with (h | ⟨o, h⟩) | h
  · exact .inl (.inl (e _ _ h))
  · exact .inl (.inr ⟨o, e _ _ h⟩)
  · exact .inr h
mutual
theorem dp_mono {K : Kx} {H H' : Hp} (e : Same H H') : ∀ (d : D) (v : V), Rp K H v d → Rp K H' v d
  | .none, _, h => by cases h; exact .non
  | .bool _, _, h => by cases h; exact .bl _
  | .int _, _, h => by cases h; exact .int _
  | .str _, _, h => by cases h; exact .str _
  | .list ds, _, h => by
    cases h with
    | lst hs ha => exact .lst (e.seq hs) (dpAll_mono e ds _ ha)
  | .tuple ds, _, h => by
    cases h with
    | tup hs ha => exact .tup (seqT_same e hs) (dpAll_mono e ds _ ha)
  | .dict es, _, h => by
    cases h with
    | dic hs hr hne => exact .dic (e _ _ hs) (dpKV_mono e es _ hr) hne
    | dicE hs => exact .dicE (e _ _ hs)
    | dicN hs hr => exact .dicN (e _ _ hs) (dpN_mono e es _ hr)
theorem dpAll_mono {K : Kx} {H H' : Hp} (e : Same H H') : ∀ (ds : List D) (vs : List V), RpAll K H vs ds → RpAll K H' vs ds
  | [], _, h => by cases h; exact .nil
  | d :: ds, _, h => by
    cases h with
    | cons h1 h2 => exact .cons (dp_mono e d _ h1) (dpAll_mono e ds _ h2)
theorem dpKV_mono {K : Kx} {H H' : Hp} (e : Same H H') : ∀ (ds : List (D × D)) (vs : List (Key × V)), RpKV K H vs ds → RpKV K H' vs ds
  | [], _, h => by cases h; exact .nil
  | (k, d) :: ds, _, h => by
    cases h with
    | cons h1 h2 => exact .cons (dp_mono e d _ h1) (dpKV_mono e ds _ h2)
theorem dpN_mono {K : Kx} {H H' : Hp} (e : Same H H') : ∀ (ds : List (D × D)) (xs : List (NestedKey × Addr × V)), RpN K H xs ds → RpN K H' xs ds
  | [], _, h => by cases h; exact .nil
  | (k, d) :: ds, _, h => by
    cases h with
    | cons h0 h1 h2 h3 => exact .cons h0 (dp_mono e k _ h1) (dp_mono e d _ h2) (dpN_mono e ds _ h3)
end
theorem da_len {K : Kx} {H : Hp} : ∀ {vs : List V} {ds : List D}, RpAll K H vs ds → vs.length = ds.length
  | _, _, .nil => rfl
  | _, _, .cons _ t => congrArg (· + 1) (da_len t)
theorem da_at {K : Kx} {H : Hp} : ∀ {vs : List V} {ds : List D} {i : Nat} {d : D}, RpAll K H vs ds → ds[i]? = some d → ∃ v, vs[i]? = some v ∧ Rp K H v d
  | _, _, i, v, .nil, e => by simp at e
  | _, _, 0, v, .cons h _, e => by
    have q := Option.some.inj e
    subst q
    exact ⟨_, rfl, h⟩
  | _, _, i + 1, v, .cons _ t, e => da_at (i := i) t e
theorem da_app {K : Kx} {H : Hp} : ∀ {vs ws : List V} {ds es : List D}, RpAll K H vs ds → RpAll K H ws es → RpAll K H (vs ++ ws) (ds ++ es)
  | _, _, _, _, .nil, h => h
  | _, _, _, _, .cons h t, q => .cons h (da_app t q)
theorem da_drop {K : Kx} {H : Hp} : ∀ {vs : List V} {ds : List D} (n : Nat), RpAll K H vs ds → RpAll K H (vs.drop n) (ds.drop n)
  | _, _, 0, h => h
  | _, _, _ + 1, .nil => .nil
  | _, _, n + 1, .cons _ t => da_drop n t
theorem da_take {K : Kx} {H : Hp} : ∀ {vs : List V} {ds : List D} (n : Nat), RpAll K H vs ds → RpAll K H (vs.take n) (ds.take n)
  | _, _, 0, _ => .nil
  | _, _, _ + 1, .nil => .nil
  | _, _, n + 1, .cons h t => .cons h (da_take n t)
theorem da_set {K : Kx} {H : Hp} {v : V} {d : D} (r : Rp K H v d) : ∀ {vs : List V} {ds : List D} (n : Nat), RpAll K H vs ds → RpAll K H (vs.set n v) (ds.set n d)
  | _, _, _, .nil => .nil
  | _, _, 0, .cons _ t => .cons r t
  | _, _, n + 1, .cons h t => .cons h (da_set r n t)
theorem da_ints {K : Kx} {H : Hp} : ∀ ns : List Int, RpAll K H (ns.map V.int) (ns.map PyData.int)
  | [] => .nil
  | n :: ns => .cons (.int n) (da_ints ns)
/-- a list of one's own at a: it isn't among what stands for good -/
def OwnB (K : Kx) (F H : Hp) (a : Addr) (d : D) : Prop := (∃ xs ds, d = .list ds ∧ H a = some (.lst xs) ∧ RpAll K F xs ds) ∨ (∃ xs es, d = .dict es ∧ H a = some (dicO K a xs) ∧ RpN K F xs es) ∨ (∃ ks es, d = .tuple [.dict es] ∧ H a = some (.dK ks) ∧ RpKV K F ks es)
/-- no dict with text keys of one's own (these bear a tuple around them) -/
def notT : D → Bool
  | .tuple _ => false
  | _ => true
def OwnAt (K : Kx) (F H : Hp) (a : Addr) (d : D) : Prop := F a = none ∧ OwnB K F H a d
theorem OwnAt.there {K : Kx} {F H : Hp} {a : Addr} {d : D} (h : OwnAt K F H a d) : ∃ o, H a = some o := by
  rcases h.2 with ⟨_, _, _, e, _⟩ | ⟨_, _, _, e, _⟩ | ⟨_, _, _, e, _⟩ <;> exact ⟨_, e⟩
theorem OwnB.mono {K : Kx} {F F' H H' : Hp} {a : Addr} {d : D} (h : OwnB K F H a d) (f : Same F F') (e : ∀ o, H a = some o → H' a = some o) : OwnB K F' H' a d := by
  rcases h with ⟨xs, ds, e1, e2, r⟩ | ⟨xs, es, e1, e2, r⟩ | ⟨ks, es, e1, e2, r⟩
  · exact .inl ⟨xs, ds, e1, e _ e2, dpAll_mono f _ _ r⟩
  · exact .inr (.inl ⟨xs, es, e1, e _ e2, dpN_mono f _ _ r⟩)
  · exact .inr (.inr ⟨ks, es, e1, e _ e2, dpKV_mono f _ _ r⟩)
/-- .. a list, or a dict with tuple keys -/
def OwnN (K : Kx) (F H : Hp) (a : Addr) (d : D) : Prop := OwnAt K F H a d ∧ notT d = true
def CellOk (K : Kx) (F H : Hp) (x : Option (Option V)) : Cell → Prop
  | .val d => ∃ v, x = some (some v) ∧ Rp K F v d
  | .own _ d => ∃ a, x = some (some (.ref a)) ∧ OwnAt K F H a d
def Owns (σ : L2.St) (ρ : Env) (b : Addr) : Prop := ∃ (i : Nat) (f : Bool) (d : D), ρ[i]? = some (some (.own f d)) ∧ σ[i]? = some (some (.ref b))
/-- slots and heap bear the data environment; F is what stands for good -/
structure St (K : Kx) (F H : Hp) (σ : L2.St) (ρ : Env) : Prop where
  sub : Same F H
  len : ρ.length = σ.length
  cell : ∀ (i : Nat) (c : Cell), ρ[i]? = some (some c) → CellOk K F H σ[i]? c
  dist : ∀ (i j : Nat) (f g : Bool) (d e : D) (a : Addr), ρ[i]? = some (some (.own f d)) → ρ[j]? = some (some (.own g e)) → σ[i]? = some (some (.ref a)) → σ[j]? = some (some (.ref a)) → i = j
theorem St.free {K : Kx} {F H : Hp} {σ : L2.St} {ρ : Env} (s : St K F H σ ρ) {b : Addr} (o : Owns σ ρ b) : F b = none ∧ ∃ u, H b = some u := by
  obtain ⟨i, f, d, e, e2⟩ := o
  obtain ⟨a, e3, h⟩ := s.cell i _ e
  rw [e2] at e3
  cases e3
  exact ⟨h.1, h.there⟩
/-- from one state to another: what stood, but one's own, stands -/
structure Stp (F : Hp) (σ : L2.St) (ρ : Env) (H : Hp) (F' : Hp) (σ' : L2.St) (ρ' : Env) (H' : Hp) : Prop where
  ff : Same F F'
  keep : ∀ b o, H b = some o → ¬ Owns σ ρ b → H' b = some o ∧ F' b = F b
  fresh : ∀ b, Owns σ' ρ' b → Owns σ ρ b ∨ H b = none
  fix : ∀ (i : Nat) (d : D), ρ[i]? = some (some (.own true d)) → σ'[i]? = σ[i]? ∧ ∃ d', ρ'[i]? = some (some (.own true d'))
  dom : ∀ b o, H b = some o → ∃ o', H' b = some o'
theorem Stp.refl {F : Hp} {σ : L2.St} {ρ : Env} {H : Hp} : Stp F σ ρ H F σ ρ H := ⟨Same.refl _, fun _ _ h _ => ⟨h, rfl⟩, fun _ h => .inl h, fun _ d h => ⟨rfl, d, h⟩, fun _ o h => ⟨o, h⟩⟩
theorem Stp.trans {F F1 F2 : Hp} {σ σ1 σ2 : L2.St} {ρ ρ1 ρ2 : Env} {H H1 H2 : Hp} (a : Stp F σ ρ H F1 σ1 ρ1 H1) (b : Stp F1 σ1 ρ1 H1 F2 σ2 ρ2 H2) : Stp F σ ρ H F2 σ2 ρ2 H2 where
  ff := a.ff.trans b.ff
  keep := fun c o h n => by
    obtain ⟨h1, f1⟩ := a.keep c o h n
    have n1 : ¬ Owns σ1 ρ1 c := fun z => by
      rcases a.fresh c z with y | y
      · exact n y
      · rw [h] at y; cases y
    obtain ⟨h2, f2⟩ := b.keep c o h1 n1
    exact ⟨h2, f2.trans f1⟩
  fresh := fun c z => by
    rcases b.fresh c z with y | y
    · exact a.fresh c y
    · cases q : H c with
      | none => exact .inr rfl
      | some o =>
        by_cases n : Owns σ ρ c
        · exact .inl n
        · rw [(a.keep c o q n).1] at y; cases y
  fix := fun i d h => by
    obtain ⟨e1, d1, h1⟩ := a.fix i d h
    obtain ⟨e2, d2, h2⟩ := b.fix i d1 h1
    exact ⟨e2.trans e1, d2, h2⟩
  dom := fun c o h => by
    obtain ⟨o1, h1⟩ := a.dom c o h
    exact b.dom c o1 h1
theorem Stp.none {F F1 : Hp} {σ σ1 : L2.St} {ρ ρ1 : Env} {H H1 : Hp} (a : Stp F σ ρ H F1 σ1 ρ1 H1) {p : Addr} (h : H1 p = none) : H p = none := by
  cases q : H p with
  | none => rfl
  | some o =>
    obtain ⟨o', e⟩ := a.dom p o q
    rw [h] at e
    cases e
/-- new things, and nothing else -/
structure Grow (F H F' H' : Hp) : Prop where
  ff : Same F F'
  hh : Same H H'
  fh : Same F' H'
  new : ∀ b o, H b = some o → F' b = F b
theorem Grow.refl {F H : Hp} (s : Same F H) : Grow F H F H := ⟨Same.refl _, Same.refl _, s, fun _ _ _ => rfl⟩
theorem Grow.trans {F H F1 H1 F2 H2 : Hp} (a : Grow F H F1 H1) (b : Grow F1 H1 F2 H2) : Grow F H F2 H2 :=
  ⟨a.ff.trans b.ff, a.hh.trans b.hh, b.fh, fun c o h => (b.new c o (a.hh c o h)).trans (a.new c o h)⟩
theorem same_new {H : Hp} {p : Addr} {o : HO} (h : H p = none) : Same H (upd H p o) := fun b x e => by
  rw [upd_ne (ne_of_none e h)]
  exact e
theorem same_upd2 {F H : Hp} {p : Addr} {o : HO} (s : Same F H) : Same (upd F p o) (upd H p o) := fun b x e => by
  by_cases h : b = p
  · subst h
    rw [upd_same] at e ⊢
    exact e
  · rw [upd_ne h] at e ⊢
    exact s b x e
theorem none_sub {F H : Hp} {p : Addr} (s : Same F H) (h : H p = none) : F p = none := s.free h
/-- a new thing that stands for good -/
theorem Grow.val {F H : Hp} {p : Addr} {o : HO} (s : Same F H) (h : H p = none) : Grow F H (upd F p o) (upd H p o) :=
  ⟨same_new (none_sub s h), same_new h, same_upd2 s, fun b x e => upd_ne (ne_of_none e h)⟩
/-- a new thing of one's own -/
theorem Grow.own {F H : Hp} {p : Addr} {o : HO} (s : Same F H) (h : H p = none) : Grow F H F (upd H p o) :=
  ⟨Same.refl _, same_new h, s.trans (same_new h), fun _ _ _ => rfl⟩
theorem OwnAt.grow {K : Kx} {F H F' H' : Hp} {a : Addr} {d : D} (g : Grow F H F' H') (h : OwnAt K F H a d) : OwnAt K F' H' a d := by
  obtain ⟨o, ho⟩ := h.there
  exact ⟨(g.new a _ ho).trans h.1, h.2.mono g.ff fun o e => g.hh _ _ e⟩
theorem St.grow {K : Kx} {F H F' H' : Hp} {σ : L2.St} {ρ : Env} (s : St K F H σ ρ) (g : Grow F H F' H') : St K F' H' σ ρ where
  sub := g.fh
  len := s.len
  cell := fun i c e => by
    have q := s.cell i c e
    cases c with
    | val d =>
      obtain ⟨v, e1, r⟩ := q
      exact ⟨v, e1, dp_mono g.ff _ _ r⟩
    | own f d =>
      obtain ⟨a, e1, r⟩ := q
      exact ⟨a, e1, r.grow g⟩
  dist := s.dist
theorem Grow.stp {F H F' H' : Hp} (g : Grow F H F' H') (σ : L2.St) (ρ : Env) : Stp F σ ρ H F' σ ρ H' :=
  ⟨g.ff, fun b o h _ => ⟨g.hh b o h, g.new b o h⟩, fun _ h => .inl h, fun _ d h => ⟨rfl, d, h⟩, fun b o h => ⟨o, g.hh b o h⟩⟩
section
variable (K : Kx)
def tD (g : Md D) : TE := fun σ H Q => ∃ (F : Hp) (ρ : Env) (d : D) (ρ' : Env), St K F H σ ρ ∧ g ρ = some (d, ρ') ∧
  ∀ v F' H', Stp F σ ρ H F' σ ρ' H' → St K F' H' σ ρ' → Rp K F' v d → Q v H'
/-- the answer is a new list of one's own -/
def tF (g : Md D) : TE := fun σ H Q => ∃ (F : Hp) (ρ : Env) (d : D) (ρ' : Env), St K F H σ ρ ∧ g ρ = some (d, ρ') ∧
  ∀ a F' H', Stp F σ ρ H F' σ ρ' H' → St K F' H' σ ρ' → OwnN K F' H' a d → ¬ Owns σ ρ' a → H a = none → Q (.ref a) H'
def tDT (g : Md Bool) : TT := fun σ H Q => ∃ (F : Hp) (ρ : Env) (d : Bool) (ρ' : Env), St K F H σ ρ ∧ g ρ = some (d, ρ') ∧
  ∀ F' H', Stp F σ ρ H F' σ ρ' H' → St K F' H' σ ρ' → Q d H'
def tDA (g : Md (List D)) : TA := fun σ H Q => ∃ (F : Hp) (ρ : Env) (ds : List D) (ρ' : Env), St K F H σ ρ ∧ g ρ = some (ds, ρ') ∧
  ∀ vs F' H', Stp F σ ρ H F' σ ρ' H' → St K F' H' σ ρ' → RpAll K F' vs ds → Q vs H'
inductive Fl where
  | nx | ret (d : D) | rof (d : D) | brk | cnt
abbrev Sd := Env → Option (Fl × Env)
def FlOk (E : Ends) (H0 F' : Hp) (σ' : L2.St) (H' : Hp) : Fl → Prop
  | .nx => E.nx σ' H'
  | .ret d => ∀ v, Rp K F' v d → E.rt v H'
  | .rof d => ∀ a, OwnN K F' H' a d → H0 a = none → E.rt (.ref a) H'
  | .brk => E.bk σ' H'
  | .cnt => E.ct σ' H'
def tDS (g : Sd) : TS := fun E σ H => ∃ (F : Hp) (ρ : Env) (f : Fl) (ρ' : Env), St K F H σ ρ ∧ g ρ = some (f, ρ') ∧
  ∀ σ' F' H', Stp F σ ρ H F' σ' ρ' H' → St K F' H' σ' ρ' → FlOk K E H F' σ' H' f
/-- a target's reading: the datum is stored -/
def tDG (is : List Nat) (g : D → Env → Option Env) : TG := fun v σ H Q => ∃ (F : Hp) (ρ : Env) (d : D) (ρ' : Env), St K F H σ ρ ∧ Rp K F v d ∧ g d ρ = some ρ' ∧
  ∀ σ' F' H', Stp F σ ρ H F' σ' ρ' H' → St K F' H' σ' ρ' → (σ'.length = σ.length ∧ ∀ j, j ∉ is → σ'[j]? = σ[j]?) → Q σ' H'
/-- operators: the answer from the data -/
def rP2 (f : D → D → Option D) : R2 := fun x y H Q => ∃ (F : Hp) (d e r : D), Same F H ∧ Rp K F x d ∧ Rp K F y e ∧ f d e = some r ∧ ∀ v F' H', Grow F H F' H' → Rp K F' v r → Q v H'
def rP1 (f : D → Option D) : V → Hp → VK → Prop := fun x H Q => ∃ (F : Hp) (d r : D), Same F H ∧ Rp K F x d ∧ f d = some r ∧ ∀ v F' H', Grow F H F' H' → Rp K F' v r → Q v H'
def rPn (f : List D → Option D) : List V → Hp → VK → Prop := fun xs H Q => ∃ (F : Hp) (ds : List D) (r : D), Same F H ∧ RpAll K F xs ds ∧ f ds = some r ∧ ∀ v F' H', Grow F H F' H' → Rp K F' v r → Q v H'
/-- .. a new list -/
def rFn (f : List D → Option D) : List V → Hp → VK → Prop := fun xs H Q => ∃ (F : Hp) (ds : List D) (r : D), Same F H ∧ RpAll K F xs ds ∧ f ds = some r ∧ ∀ a F' H', Grow F H F' H' → OwnN K F' H' a r → H a = none → Q (.ref a) H'
end
abbrev DE (X : Cx) (e : Expr) (g : Md D) : Prop := PE X e (tD (cxK X) g)
abbrev DF (X : Cx) (e : Expr) (g : Md D) : Prop := PE X e (tF (cxK X) g)
abbrev DT (X : Cx) (e : Expr) (g : Md Bool) : Prop := PT X e (tDT (cxK X) g)
abbrev DW (X : Cx) (e : Expr) (g : Md Bool) : Prop := PW X e (tDT (cxK X) g)
abbrev DA (X : Cx) (es : List Expr) (g : Md (List D)) : Prop := PA X es (tDA (cxK X) g)
abbrev DS (X : Cx) (st : Stmt) (g : Sd) : Prop := PS X st (tDS (cxK X) g)
abbrev DSs (X : Cx) (st : List Stmt) (g : Sd) : Prop := PSs X st (tDS (cxK X) g)
abbrev DG (X : Cx) (e : Expr) (is : List Nat) (g : D → Env → Option Env) : Prop := PG X e (tDG (cxK X) is g)
theorem pe_imp {X : Cx} {e : Expr} {t t' : TE} (h : PE X e t) (i : ∀ σ H Q, t' σ H Q → t σ H Q) : PE X e t' := ⟨fun pins s σ H Q I q => h.run pins s σ H Q I (i σ H Q q)⟩
theorem pt_imp {X : Cx} {e : Expr} {t t' : TT} (h : PT X e t) (i : ∀ σ H Q, t' σ H Q → t σ H Q) : PT X e t' := ⟨fun pins s σ H Q I q => h.run pins s σ H Q I (i σ H Q q)⟩
theorem pw_imp {X : Cx} {e : Expr} {t t' : TT} (h : PW X e t) (i : ∀ σ H Q, t' σ H Q → t σ H Q) : PW X e t' := ⟨fun wh pins s σ H Q I q => h.run wh pins s σ H Q I (i σ H Q q)⟩
theorem pa_imp {X : Cx} {e : List Expr} {t t' : TA} (h : PA X e t) (i : ∀ σ H Q, t' σ H Q → t σ H Q) : PA X e t' := ⟨fun pos pins s σ H Q I q => h.run pos pins s σ H Q I (i σ H Q q)⟩
theorem ps_imp {X : Cx} {e : Stmt} {t t' : TS} (h : PS X e t) (i : ∀ E σ H, t' E σ H → t E σ H) : PS X e t' := ⟨fun pins s σ H E I q => h.run pins s σ H E I (i E σ H q)⟩
theorem pss_imp {X : Cx} {e : List Stmt} {t t' : TS} (h : PSs X e t) (i : ∀ E σ H, t' E σ H → t E σ H) : PSs X e t' := ⟨fun pins s σ H E I q => h.run pins s σ H E I (i E σ H q)⟩
theorem pg_imp {X : Cx} {e : Expr} {t t' : TG} (h : PG X e t) (i : ∀ v σ H Q, t' v σ H Q → t v σ H Q) : PG X e t' := ⟨fun pins s σ H v u Q I r q => h.run pins s σ H v u Q I r (i v σ H Q q)⟩
end Dn
set_option maxHeartbeats 1000000
namespace Dn
open PySem PySem.Spec PyProof.Rows L2
def gC (d : D) : Md D := fun ρ => some (d, ρ)
def gVar (i : Nat) : Md D := fun ρ => match ρ[i]? with
  | some (some (.val d)) => some (d, ρ)
  | _ => none
def gFrz (i : Nat) : Md D := fun ρ => match ρ[i]? with
  | some (some (.val d)) => some (d, ρ)
  | some (some (.own false d)) => if notT d = true then some (d, ρ.set i (some (.val d))) else none
  | _ => none
def gBin (f : D → D → Option D) (ga gb : Md D) : Md D := fun ρ => (ga ρ).bind fun p => (gb p.2).bind fun q => (f p.1 q.1).bind fun r => some (r, q.2)
def gUn (f : D → Option D) (ga : Md D) : Md D := fun ρ => (ga ρ).bind fun p => (f p.1).bind fun r => some (r, p.2)
def bOf : D → Option Bool
  | .bool b => some b
  | _ => none
def gTst (g : Md D) : Md Bool := fun ρ => (g ρ).bind fun p => (bOf p.1).bind fun b => some (b, p.2)
def gChain (f f' : D → D → Option D) (ga gb gc : Md D) : Md D := fun ρ => (ga ρ).bind fun p => (gb p.2).bind fun q => (f p.1 q.1).bind fun r => (bOf r).bind fun b =>
  if b = true then (gc q.2).bind fun t => (f' q.1 t.1).bind fun r => some (r, t.2) else some (.bool false, q.2)
def gAnd (ga gb : Md Bool) : Md Bool := fun ρ => (ga ρ).bind fun p => if p.1 = true then gb p.2 else some (false, p.2)
def gOr (ga gb : Md Bool) : Md Bool := fun ρ => (ga ρ).bind fun p => if p.1 = true then some (true, p.2) else gb p.2
def gNot (ga : Md Bool) : Md Bool := fun ρ => (ga ρ).bind fun p => some (!p.1, p.2)
def gAndV (ga gb : Md D) : Md D := fun ρ => (ga ρ).bind fun p => (bOf p.1).bind fun b => if b = true then gb p.2 else some (.bool false, p.2)
def gOrV (ga gb : Md D) : Md D := fun ρ => (ga ρ).bind fun p => (bOf p.1).bind fun b => if b = true then some (.bool true, p.2) else gb p.2
def gNotV (ga : Md D) : Md D := fun ρ => (ga ρ).bind fun p => (bOf p.1).bind fun b => some (.bool (!b), p.2)
def gIfE (gc : Md Bool) (ga gb : Md D) : Md D := fun ρ => (gc ρ).bind fun p => if p.1 = true then ga p.2 else gb p.2
def gNil : Md (List D) := fun ρ => some ([], ρ)
def gCons (g : Md D) (gs : Md (List D)) : Md (List D) := fun ρ => (g ρ).bind fun p => (gs p.2).bind fun q => some (p.1 :: q.1, q.2)
def gApp (f : List D → Option D) (gs : Md (List D)) : Md D := fun ρ => (gs ρ).bind fun p => (f p.1).bind fun r => some (r, p.2)
section
variable {X : Cx} {a b c e : Expr} {es : List Expr} {pos : Pos}
theorem st_owned {K : Kx} {F H : Hp} {σ : L2.St} {ρ : Env} {i : Nat} {f : Bool} {d : D} (s : St K F H σ ρ) (e : ρ[i]? = some (some (.own f d))) : ∃ a, σ[i]? = some (some (.ref a)) ∧ OwnAt K F H a d ∧ Owns σ ρ a := by
  obtain ⟨a, e1, h⟩ := s.cell i _ e
  exact ⟨a, e1, h, i, f, d, e, e1⟩
theorem st_val {K : Kx} {F H : Hp} {σ : L2.St} {ρ : Env} {i : Nat} {d : D} (s : St K F H σ ρ) (e : ρ[i]? = some (some (.val d))) : ∃ v, σ[i]? = some (some v) ∧ Rp K F v d := s.cell i _ e
/-- a list of one's own comes to stand for good -/
theorem own_dp {K : Kx} {F H : Hp} {a : Addr} {d : D} (h : OwnN K F H a d) : ∃ o, H a = some o ∧ Same F (upd F a o) ∧ Rp K (upd F a o) (.ref a) d := by
  obtain ⟨⟨f, h⟩, hn⟩ := h
  rcases h with ⟨xs, ds, rfl, e, r⟩ | ⟨xs, es, rfl, e, r⟩ | ⟨xs, es, rfl, e, r⟩
  · exact ⟨_, e, same_new f, .lst (.inl (.inl upd_same)) (dpAll_mono (same_new f) _ _ r)⟩
  · exact ⟨_, e, same_new f, .dicN upd_same (dpN_mono (same_new f) _ _ r)⟩
  · cases hn
theorem sub_upd {F H : Hp} {a : Addr} {o : HO} (s : Same F H) (e : H a = some o) : Same (upd F a o) H := fun b x h => by
  by_cases q : b = a
  · subst q
    rw [upd_same] at h
    rw [e]
    exact h
  · rw [upd_ne q] at h
    exact s b x h
theorem own_keep {K : Kx} {F H : Hp} {a b : Addr} {d : D} {o : HO} (h : OwnAt K F H b d) (n : b ≠ a) (hF : F a = none) : OwnAt K (upd F a o) H b d := by
  exact ⟨(upd_ne n).trans h.1, h.2.mono (same_new hF) fun _ e => e⟩
theorem st_frz {K : Kx} {F H : Hp} {σ : L2.St} {ρ : Env} {a : Addr} {o : HO} (s : St K F H σ ρ) (hF : F a = none) (e : H a = some o) (n : ¬ Owns σ ρ a) : St K (upd F a o) H σ ρ where
  sub := sub_upd s.sub e
  len := s.len
  cell := fun i c h => by
    have q := s.cell i c h
    cases c with
    | val d =>
      obtain ⟨v, e1, r⟩ := q
      exact ⟨v, e1, dp_mono (same_new hF) _ _ r⟩
    | own f d =>
      obtain ⟨b, e1, r⟩ := q
      exact ⟨b, e1, own_keep r (fun z => n (by subst z; exact ⟨i, f, d, h, e1⟩)) hF⟩
  dist := s.dist
theorem get_set_self {α : Type} {l : List α} {i : Nat} {x y : α} (h : l[i]? = some y) : (l.set i x)[i]? = some x := List.getElem?_set_self (List.getElem?_eq_some_iff.mp h).1
theorem get_set_ne {α : Type} {l : List α} {i j : Nat} {x : α} (h : j ≠ i) : (l.set i x)[j]? = l[j]? := List.getElem?_set_ne (Ne.symm h)
theorem df_de {g : Md D} (h : DF X e g) : DE X e g := pe_imp h fun σ H Q q => by
  obtain ⟨F, ρ, d, ρ', s, eg, k⟩ := q
  refine ⟨F, ρ, d, ρ', s, eg, fun a F' H' st s' o n hn => ?_⟩
  obtain ⟨u, eu, sf, r⟩ := own_dp o
  refine k (.ref a) (upd F' a u) H' ⟨st.ff.trans sf, fun b x hb nb => ?_, st.fresh, st.fix, st.dom⟩ (st_frz s' o.1.1 eu n) r
  obtain ⟨h1, h2⟩ := st.keep b x hb nb
  exact ⟨h1, (upd_ne (ne_of_none hb hn)).trans h2⟩
theorem de_var (i : Nat) {x : Str} (hN : X.N[i]? = some x) (hv : Vis X.env.scope x) (hd : (x == ("__debug__" : Str)) = false := by decide) (hcd : (x == ("__classdict__" : Str)) = false := by decide) : DE X (.Name x pos) (gVar i) :=
  pe_imp (pe_var hN hv hd hcd) fun σ H Q q => by
    obtain ⟨F, ρ, d, ρ', s, eg, k⟩ := q
    unfold gVar at eg
    split at eg
    · rename_i d' h
      cases eg
      obtain ⟨v, e1, r⟩ := st_val s h
      exact ⟨v, e1, k v F H Stp.refl s r⟩
    · cases eg
theorem de_frz (i : Nat) {x : Str} (hN : X.N[i]? = some x) (hv : Vis X.env.scope x) (hd : (x == ("__debug__" : Str)) = false := by decide) (hcd : (x == ("__classdict__" : Str)) = false := by decide) : DE X (.Name x pos) (gFrz i) :=
  pe_imp (pe_var hN hv hd hcd) fun σ H Q q => by
    obtain ⟨F, ρ, d, ρ', s, eg, k⟩ := q
    unfold gFrz at eg
    split at eg
    · rename_i d' h
      cases eg
      obtain ⟨v, e1, r⟩ := st_val s h
      exact ⟨v, e1, k v F H Stp.refl s r⟩
    · rename_i d' h
      by_cases hnt : notT d' = true
      case neg =>
        rw [if_neg hnt] at eg
        cases eg
      rw [if_pos hnt] at eg
      cases eg
      obtain ⟨a, e1, r, ow⟩ := st_owned s h
      obtain ⟨u, eu, sf, rd⟩ := own_dp ⟨r, hnt⟩
      refine ⟨.ref a, e1, k (.ref a) (upd F a u) H ⟨sf, fun b o hb nb => ⟨hb, upd_ne fun z => nb (by subst z; exact ow)⟩, fun b hb => ?_, fun j dj hj => ?_, fun _ o h => ⟨o, h⟩⟩ ?_ rd⟩
      · obtain ⟨j, f, dj, h1, h2⟩ := hb
        by_cases z : j = i
        · subst z
          rw [get_set_self h] at h1
          cases h1
        · rw [get_set_ne z] at h1
          exact .inl ⟨j, f, dj, h1, h2⟩
      · have z : j ≠ i := fun z => by
          subst z
          rw [h] at hj
          cases hj
        exact ⟨rfl, dj, by rw [get_set_ne z]; exact hj⟩
      · refine ⟨sub_upd s.sub eu, by rw [List.length_set]; exact s.len, fun j c hj => ?_, fun j l f g dj dl b h1 h2 h3 h4 => ?_⟩
        · by_cases z : j = i
          · subst z
            rw [get_set_self h] at hj
            cases hj
            exact ⟨.ref a, e1, rd⟩
          · rw [get_set_ne z] at hj
            have q := s.cell j c hj
            cases c with
            | val dj =>
              obtain ⟨v, e2, r2⟩ := q
              exact ⟨v, e2, dp_mono sf _ _ r2⟩
            | own f dj =>
              obtain ⟨b, e2, r2⟩ := q
              exact ⟨b, e2, own_keep r2 (fun y => z (by subst y; exact s.dist j i f false dj _ _ hj h e2 e1)) r.1⟩
        · have z1 : j ≠ i := fun z => by subst z; rw [get_set_self h] at h1; cases h1
          have z2 : l ≠ i := fun z => by subst z; rw [get_set_self h] at h2; cases h2
          rw [get_set_ne z1] at h1
          rw [get_set_ne z2] at h2
          exact s.dist j l f g dj dl b h1 h2 h3 h4
    · cases eg
theorem de_const {t : TE} {d : D} {v : V} (h : PE X e (tC v)) (r : ∀ F, Rp (cxK X) F v d) : DE X e (gC d) := pe_imp h fun σ H Q q => by
  obtain ⟨F, ρ, d', ρ', s, eg, k⟩ := q
  cases eg
  exact k v F H Stp.refl s (r F)
theorem de_int {i : Int} {j : Nat} : DE X (.Constant (.int i) j pos) (gC (.int i)) := de_const (t := tC .non) pe_int fun _ => .int i
theorem de_bl {b : Bool} {j : Nat} : DE X (.Constant (.bool b) j pos) (gC (.bool b)) := de_const (t := tC .non) pe_bl fun _ => .bl b
theorem de_non {j : Nat} : DE X (.Constant .none j pos) (gC .none) := de_const (t := tC .non) pe_non fun _ => .non
theorem de_str {x : Str} {j : Nat} : DE X (.Constant (.str x) j pos) (gC (.str x)) := de_const (t := tC .non) pe_str fun _ => .str x
theorem bind_some {α β : Type} {o : Option α} {f : α → Option β} {r : β} (h : o.bind f = some r) : ∃ a, o = some a ∧ f a = some r := by
  cases o with
  | none => cases h
  | some a => exact ⟨a, rfl, h⟩
theorem dp_bl {K : Kx} {H : Hp} {v : V} {b : Bool} (h : Rp K H v (.bool b)) : v = .bl b := by cases h; rfl
theorem bOf_some {d : D} {b : Bool} (h : bOf d = some b) : d = .bool b := by
  cases d <;> simp [bOf] at h
  subst h
  rfl
theorem bin_q {r : R2} {f : D → D → Option D} {ga gb : Md D} (hr : r = rP2 (cxK X) f) {σ : L2.St} {H : Hp} {Q : VK} (q : tD (cxK X) (gBin f ga gb) σ H Q) : tOp r (tD (cxK X) ga) (tD (cxK X) gb) σ H Q := by
  subst hr
  obtain ⟨F, ρ, d, ρ', s, eg, k⟩ := q
  obtain ⟨⟨x, ρ1⟩, e1, eg⟩ := bind_some eg
  obtain ⟨⟨y, ρ2⟩, e2, eg⟩ := bind_some eg
  obtain ⟨z, e3, eg⟩ := bind_some eg
  cases eg
  exact ⟨F, ρ, x, ρ1, s, e1, fun v F1 H1 p1 s1 r1 => ⟨F1, ρ1, y, ρ2, s1, e2, fun u F2 H2 p2 s2 r2 => ⟨F2, x, y, _, s2.sub, dp_mono p2.ff _ _ r1, r2, e3, fun w F3 H3 gr rw' =>
    k w F3 H3 (p1.trans (p2.trans (gr.stp σ ρ2))) (s2.grow gr) rw'⟩⟩⟩
theorem de_bin {op : Operator} {f : D → D → Option D} {ga gb : Md D} (ho : OpR X (binaryOp op) (rP2 (cxK X) f)) (ha : DE X a ga) (hb : DE X b gb) : DE X (.BinOp a op b pos) (gBin f ga gb) :=
  pe_imp (pe_op ho ha hb) fun _ _ _ q => bin_q rfl q
theorem de_cmp {op : CmpOp} {f : D → D → Option D} {ga gb : Md D} (ho : OpR X (compareOp op) (rP2 (cxK X) f)) (ha : DE X a ga) (hb : DE X b gb) (hm : behindInMarks op b = false) : DE X (.Compare a [op] [b] pos) (gBin f ga gb) :=
  pe_imp (pe_cmpR ho ha hb hm) fun _ _ _ q => bin_q rfl q
theorem de_ix {f : D → D → Option D} {ga gb : Md D} (ho : IxR X (rP2 (cxK X) f)) (ha : DE X a ga) (hb : DE X b gb) (hs : PlainIx b) : DE X (.Subscript a b pos) (gBin f ga gb) :=
  pe_imp (pe_ix ho ha hb hs) fun _ _ _ q => bin_q rfl q
theorem de_un {op : UnaryOp} {f : D → Option D} {ga : Md D} (ho : UnR X (unaryOp op) (rP1 (cxK X) f)) (ha : DE X a ga) : DE X (.UnaryOp op a pos) (gUn f ga) :=
  pe_imp (pe_un ho ha) fun σ H Q q => by
    obtain ⟨F, ρ, d, ρ', s, eg, k⟩ := q
    obtain ⟨⟨x, ρ1⟩, e1, eg⟩ := bind_some eg
    obtain ⟨z, e3, eg⟩ := bind_some eg
    cases eg
    exact ⟨F, ρ, x, ρ1, s, e1, fun v F1 H1 p1 s1 r1 => ⟨F1, x, _, s1.sub, r1, e3, fun w F3 H3 gr rw' => k w F3 H3 (p1.trans (gr.stp σ ρ1)) (s1.grow gr) rw'⟩⟩
theorem tst_q {g : Md D} {σ : L2.St} {H : Hp} {Q : Bool → Hp → Prop} (q : tDT (cxK X) (gTst g) σ H Q) : tD (cxK X) g σ H (fun x H1 => ∃ k, x = .bl k ∧ Q k H1) := by
  obtain ⟨F, ρ, d, ρ', s, eg, k⟩ := q
  obtain ⟨⟨x, ρ1⟩, e1, eg⟩ := bind_some eg
  obtain ⟨z, e3, eg⟩ := bind_some eg
  cases eg
  refine ⟨F, ρ, x, _, s, e1, fun v F1 H1 p1 s1 r1 => ⟨d, ?_, k F1 H1 p1 s1⟩⟩
  have e : x = .bool d := bOf_some e3
  subst e
  exact dp_bl r1
theorem dt_cmp {op : CmpOp} {f : D → D → Option D} {ga gb : Md D} (ho : OpR X (compareOp op) (rP2 (cxK X) f)) (ha : DE X a ga) (hb : DE X b gb) (hm : behindInMarks op b = false) : DT X (.Compare a [op] [b] pos) (gTst (gBin f ga gb)) :=
  pt_imp (pt_cmpR ho ha hb hm) fun σ H Q q => bin_q rfl (tst_q q)
theorem chain_q {f f' : D → D → Option D} {ga gb gc : Md D} {σ : L2.St} {H : Hp} {Q : VK} (q : tD (cxK X) (gChain f f' ga gb gc) σ H Q) : tChain (rP2 (cxK X) f) (rP2 (cxK X) f') (tD (cxK X) ga) (tD (cxK X) gb) (tD (cxK X) gc) σ H Q := by
  obtain ⟨F, ρ, d, ρ', s, eg, k⟩ := q
  obtain ⟨⟨x, ρ1⟩, e1, eg⟩ := bind_some eg
  obtain ⟨⟨y, ρ2⟩, e2, eg⟩ := bind_some eg
  obtain ⟨z, e3, eg⟩ := bind_some eg
  obtain ⟨t, e4, eg4⟩ := bind_some eg
  clear eg
  have e5 : z = .bool t := bOf_some e4
  subst e5
  refine ⟨F, ρ, x, ρ1, s, e1, fun v F1 H1 p1 s1 r1 => ⟨F1, ρ1, y, ρ2, s1, e2, fun u F2 H2 p2 s2 r2 => ⟨F2, x, y, _, s2.sub, dp_mono p2.ff _ _ r1, r2, e3, fun w F3 H3 gr rw' => ⟨t, dp_bl rw', ?_⟩⟩⟩⟩
  have p3 := p1.trans (p2.trans (gr.stp σ ρ2))
  cases t with
  | true =>
    rw [if_pos rfl] at eg4 ⊢
    obtain ⟨⟨m, ρ3⟩, e6, eg5⟩ := bind_some eg4
    obtain ⟨n, e7, eg6⟩ := bind_some eg5
    cases eg6
    exact ⟨F3, ρ2, m, ρ3, s2.grow gr, e6, fun v4 F4 H4 p4 s4 r4 => ⟨F4, y, m, _, s4.sub, dp_mono (gr.ff.trans p4.ff) _ _ r2, r4, e7, fun v5 F5 H5 gr5 r5 =>
      k v5 F5 H5 (p3.trans (p4.trans (gr5.stp σ ρ3))) (s4.grow gr5) r5⟩⟩
  | false =>
    rw [if_neg Bool.false_ne_true] at eg4 ⊢
    cases eg4
    exact k (.bl false) F3 H3 p3 (s2.grow gr) (.bl false)
theorem dt_chain {op op' : CmpOp} {f f' : D → D → Option D} {ga gb gc : Md D} (ho : OpR X (compareOp op) (rP2 (cxK X) f)) (ho' : OpR X (compareOp op') (rP2 (cxK X) f')) (ha : DE X a ga) (hb : DE X b gb) (hc : DE X c gc) (hm : lastMarks [op, op'] [b, c] = false := by with_unfolding_all rfl) : DT X (.Compare a [op, op'] [b, c] pos) (gTst (gChain f f' ga gb gc)) :=
  pt_imp (pt_chain ho ho' ha hb hc hm) fun _ _ _ q => chain_q (tst_q q)
theorem dt_and {ga gb : Md Bool} {rest : List Expr} (ha : DT X a ga) (hb : DW X (.BoolOp .And (b :: rest) pos) gb) : DW X (.BoolOp .And (a :: b :: rest) pos) (gAnd ga gb) :=
  pw_imp (pw_and ha hb) fun σ H Q q => by
    obtain ⟨F, ρ, d, ρ', s, eg, k⟩ := q
    obtain ⟨⟨x, ρ1⟩, e1, eg⟩ := bind_some eg
    refine ⟨F, ρ, x, ρ1, s, e1, fun F1 H1 p1 s1 => ?_⟩
    cases x with
    | true => exact ⟨F1, ρ1, d, ρ', s1, eg, fun F2 H2 p2 s2 => k F2 H2 (p1.trans p2) s2⟩
    | false =>
      cases eg
      exact k F1 H1 p1 s1
theorem dt_or {ga gb : Md Bool} {rest : List Expr} (ha : DT X a ga) (hb : DW X (.BoolOp .Or (b :: rest) pos) gb) : DW X (.BoolOp .Or (a :: b :: rest) pos) (gOr ga gb) :=
  pw_imp (pw_or ha hb) fun σ H Q q => by
    obtain ⟨F, ρ, d, ρ', s, eg, k⟩ := q
    obtain ⟨⟨x, ρ1⟩, e1, eg⟩ := bind_some eg
    refine ⟨F, ρ, x, ρ1, s, e1, fun F1 H1 p1 s1 => ?_⟩
    cases x with
    | false => exact ⟨F1, ρ1, d, ρ', s1, eg, fun F2 H2 p2 s2 => k F2 H2 (p1.trans p2) s2⟩
    | true =>
      cases eg
      exact k F1 H1 p1 s1
theorem dt_and1 {ga : Md Bool} (ha : DT X a ga) : DW X (.BoolOp .And [a] pos) ga := pw_and1 ha
theorem dt_or1 {ga : Md Bool} (ha : DT X a ga) : DW X (.BoolOp .Or [a] pos) ga := pw_or1 ha
theorem dt_bool {op : BoolOp} {ga : Md Bool} (h : DW X (.BoolOp op es pos) ga) : DT X (.BoolOp op es pos) ga := h.pt
theorem dt_not {ga : Md Bool} (ha : DT X a ga) : DT X (.UnaryOp .Not a pos) (gNot ga) :=
  pt_imp (pt_not ha) fun σ H Q q => by
    obtain ⟨F, ρ, d, ρ', s, eg, k⟩ := q
    obtain ⟨⟨x, ρ1⟩, e1, eg⟩ := bind_some eg
    cases eg
    exact ⟨F, ρ, x, _, s, e1, fun F1 H1 p1 s1 => k F1 H1 p1 s1⟩
theorem de_or {ga gb : Md D} {rest : List Expr} (ha : DE X a ga) (hb : DE X (.BoolOp .Or (b :: rest) pos) gb) : DE X (.BoolOp .Or (a :: b :: rest) pos) (gOrV ga gb) :=
  pe_imp (pe_or ha hb) fun σ H Q q => by
    obtain ⟨F, ρ, d, ρ', s, eg, k⟩ := q
    obtain ⟨⟨x, ρ1⟩, e1, eg⟩ := bind_some eg
    obtain ⟨z, e3, eg⟩ := bind_some eg
    have e5 := bOf_some e3
    refine ⟨F, ρ, x, ρ1, s, e1, fun v F1 H1 p1 s1 r1 => ⟨z, by subst e5; exact dp_bl r1, ?_⟩⟩
    cases z with
    | false => exact ⟨F1, ρ1, d, ρ', s1, eg, fun u F2 H2 p2 s2 => k u F2 H2 (p1.trans p2) s2⟩
    | true =>
      cases eg
      exact k _ F1 H1 p1 s1 (.bl true)
theorem de_one {op : BoolOp} {ga : Md D} (h : DE X a ga) : DE X (.BoolOp op [a] pos) ga := pe_one h
theorem de_not {ga : Md D} (ha : DE X a ga) : DE X (.UnaryOp .Not a pos) (gNotV ga) :=
  pe_imp (pe_not ha) fun σ H Q q => by
    obtain ⟨F, ρ, d, ρ', s, eg, k⟩ := q
    obtain ⟨⟨x, ρ1⟩, e1, eg⟩ := bind_some eg
    obtain ⟨z, e3, eg⟩ := bind_some eg
    have e5 := bOf_some e3
    cases eg
    exact ⟨F, ρ, x, _, s, e1, fun v F1 H1 p1 s1 r1 => ⟨z, by subst e5; exact dp_bl r1, k _ F1 H1 p1 s1 (.bl _)⟩⟩
theorem de_ifE {gc : Md Bool} {ga gb : Md D} (hc : DT X c gc) (ha : DE X a ga) (hb : DE X b gb) : DE X (.IfExp c a b pos) (gIfE gc ga gb) :=
  pe_imp (pe_ifExp hc ha hb) fun σ H Q q => by
    obtain ⟨F, ρ, d, ρ', s, eg, k⟩ := q
    obtain ⟨⟨x, ρ1⟩, e1, eg⟩ := bind_some eg
    refine ⟨F, ρ, x, ρ1, s, e1, fun F1 H1 p1 s1 => ?_⟩
    cases x with
    | true => exact ⟨F1, ρ1, d, ρ', s1, eg, fun u F2 H2 p2 s2 => k u F2 H2 (p1.trans p2) s2⟩
    | false => exact ⟨F1, ρ1, d, ρ', s1, eg, fun u F2 H2 p2 s2 => k u F2 H2 (p1.trans p2) s2⟩
theorem da_nl : DA X [] gNil := pa_imp pa_nil fun σ H Q q => by
  obtain ⟨F, ρ, d, ρ', s, eg, k⟩ := q
  cases eg
  exact k [] F H Stp.refl s .nil
theorem da_cs {g : Md D} {gs : Md (List D)} (ha : DE X e g) (hr : DA X es gs) (hs : starEach (e :: es) X.env = (false, eval e X.env) :: starEach es X.env := by rfl) : DA X (e :: es) (gCons g gs) :=
  pa_imp (pa_cons ha hr hs) fun σ H Q q => by
    obtain ⟨F, ρ, d, ρ', s, eg, k⟩ := q
    obtain ⟨⟨x, ρ1⟩, e1, eg⟩ := bind_some eg
    obtain ⟨⟨y, ρ2⟩, e2, eg⟩ := bind_some eg
    cases eg
    exact ⟨F, ρ, x, ρ1, s, e1, fun v F1 H1 p1 s1 r1 => ⟨F1, ρ1, y, _, s1, e2, fun u F2 H2 p2 s2 r2 => k (v :: u) F2 H2 (p1.trans p2) s2 (.cons (dp_mono p2.ff _ _ r1) r2)⟩⟩
def mkTup (ds : List D) : Option D := if ds.length ≤ 16777216 then some (.tuple ds) else none
def mkLst (ds : List D) : Option D := if ds.length ≤ 16777216 then some (.list ds) else none
theorem line_eq : sizeLine = 16777216 := sizeLine_eq
theorem de_tup {gs : Md (List D)} {k : Nat} (h : DA X es gs) : DE X (.Tuple es k pos) (gApp mkTup gs) :=
  pe_imp (pe_tup h) fun σ H Q q => by
    obtain ⟨F, ρ, d, ρ', s, eg, k⟩ := q
    obtain ⟨⟨x, ρ1⟩, e1, eg⟩ := bind_some eg
    obtain ⟨z, e3, eg⟩ := bind_some eg
    cases eg
    unfold mkTup at e3
    split at e3
    · rename_i hl
      cases e3
      refine ⟨F, ρ, x, ρ1, s, e1, fun vs F1 H1 p1 s1 r1 => ⟨by rw [line_eq, da_len r1]; exact hl, fun p hp => ?_⟩⟩
      have gr : Grow F1 H1 (upd F1 p (.tup vs)) (upd H1 p (.tup vs)) := Grow.val s1.sub hp
      exact k _ _ _ (p1.trans (gr.stp σ ρ1)) (s1.grow gr) (.tup (.inl (.inl upd_same)) (dpAll_mono gr.ff _ _ r1))
    · cases e3
theorem own_new {K : Kx} {F H : Hp} {p : Addr} {vs : List V} {ds : List D} (s : Same F H) (hp : H p = none) (r : RpAll K F vs ds) : OwnN K F (upd H p (.lst vs)) p (.list ds) := ⟨⟨none_sub s hp, .inl ⟨vs, ds, rfl, upd_same, r⟩⟩, rfl⟩
theorem not_owns {K : Kx} {F H : Hp} {σ : L2.St} {ρ : Env} {p : Addr} (s : St K F H σ ρ) (hp : H p = none) : ¬ Owns σ ρ p := fun z => by
  obtain ⟨_, u, e⟩ := s.free z
  rw [hp] at e
  cases e
theorem df_lst {gs : Md (List D)} (h : DA X es gs) : DF X (.List es pos) (gApp mkLst gs) :=
  pe_imp (pe_lst h) fun σ H Q q => by
    obtain ⟨F, ρ, d, ρ', s, eg, k⟩ := q
    obtain ⟨⟨x, ρ1⟩, e1, eg⟩ := bind_some eg
    obtain ⟨z, e3, eg⟩ := bind_some eg
    cases eg
    unfold mkLst at e3
    split at e3
    · rename_i hl
      cases e3
      refine ⟨F, ρ, x, ρ1, s, e1, fun vs F1 H1 p1 s1 r1 => ⟨by rw [line_eq, da_len r1]; exact hl, fun p hp => ?_⟩⟩
      have gr : Grow F1 H1 F1 (upd H1 p (.lst vs)) := Grow.own s1.sub hp
      exact k p _ _ (p1.trans (gr.stp σ ρ1)) (s1.grow gr) (own_new s1.sub hp r1) (not_owns s1 hp) (p1.none hp)
    · cases e3
end
end Dn
set_option maxHeartbeats 2000000
namespace DnLt
open PySem PySem.SeqAt PyProof.Rows
open AutoSeq1 (wpAny_loadPart')
open MeetsSeq MeetsSeq2 MeetsSeq3 SeqRoads2
def LtAt (A : Around) (s : Shared) : List Value → List Value → Bool → Prop
  | [], [], k => k = false
  | [], _ :: _, k => k = true
  | _ :: _, [], k => k = false
  | v :: vs, w :: ws, k => (EqAt A s v w true ∧ LtAt A s vs ws k) ∨ (EqAt A s v w false ∧ RcLt A s v w k)
theorem ltAt_end {A : Around} {s : Shared} {vs ws : List Value} {k : Bool} (h : LtAt A s vs ws k) (e : vs.zip ws = []) : k = decide (vs.length < ws.length) := by
  cases vs with
  | nil =>
    cases ws with
    | nil => exact h
    | cons w ws =>
      have h1 : k = true := h
      rw [h1]
      exact (decide_eq_true (Nat.succ_pos _)).symm
  | cons v vs =>
    cases ws with
    | nil =>
      have h1 : k = false := h
      rw [h1]
      exact (decide_eq_false (Nat.not_lt_zero _)).symm
    | cons w ws => cases e
theorem tup_meets (l b : Addr) (xs ys : Array Value) (n n2 : Nat) (dd dd2 : Option Addr) (sl sl2 : Array (Option Value)) (k : Bool) :
    Meets (Builtin.«tuple.__lt__» ⟨[.ref l, .ref b], []⟩)
      (fun A R s => (s.heap.get? l = some { cls := .type "tuple", dict := dd, data := .seq xs n, slots := sl } ∧ s.heap.get? b = some { cls := .type "tuple", dict := dd2, data := .seq ys n2, slots := sl2 }) ∧
        LtAt A.in1 s xs.toList ys.toList k ∧ R (.ok (.ret (.bool k))) s) :=
  .of_wp fun prog w A R s h => by
    obtain ⟨hp, gn, dw, tk, os⟩ := s
    obtain ⟨⟨hl, hb⟩, hk, hR⟩ := h
    have f2 := AutoSeq1.sub_tuple_tuple
    wp_walk using wpAny_loadPart' hl, wpAny_loadPart' hb, wpAny_forIn_list _ (fun rest q s' => q.1 = none ∧ s' = ⟨hp, gn, dw, tk, os⟩ ∧ ∃ vs ws, rest = vs.zip ws ∧ LtAt A.in1 ⟨hp, gn, dw, tk, os⟩ vs ws k ∧
      decide (vs.length < ws.length) = decide (xs.size < ys.size)) _
    case turn =>
      rintro ⟨y, x⟩ rest q s' ⟨hq, rfl, vs, ws, hz, hk2, hs⟩
      cases vs with
      | nil => cases hz
      | cons v vs =>
        cases ws with
        | nil => cases hz
        | cons u ws =>
          rw [List.zip_cons_cons] at hz
          injection hz with h1 h2
          injection h1 with h3 h4
          subst h3 h4 h2
          have hs2 : decide (vs.length < ws.length) = decide (xs.size < ys.size) := by
            rw [← hs]
            simp
          rcases hk2 with ⟨e1, e2⟩ | ⟨e1, e2⟩
          · refine wpAny_bind (e1 prog w _ _ ?_)
            wp_walk
            exact ⟨rfl, rfl, vs, ws, rfl, e2, hs2⟩
          · refine wpAny_bind (e1 prog w _ _ ?_)
            have e3 := e2 prog w
            generalize PySem.richCompare = rc at e3 ⊢
            wp_walk
            refine e3 _ _ ?_
            wp_walk
            exact ⟨_, rfl, hR⟩
    case fin =>
      rintro ⟨q1, q2⟩ s' ⟨hq, rfl, vs, ws, hz, hk2, hs⟩
      simp only at hq
      subst hq
      have e := ltAt_end hk2 hz.symm
      rw [hs] at e
      wp_walk
      refine ⟨_, rfl, ?_⟩
      rw [e] at hR
      simpa [Builtin.Tuple.tupleCompareSizes] using hR
    case h =>
      exact ⟨rfl, rfl, xs.toList, ys.toList, by simp, hk, by simp⟩
theorem tup_lt {A : Around} {s : Shared} {l b : Addr} {xs ys : Array Value} {k : Bool} (hl : s.heap.IsTuple l xs) (hb : s.heap.IsTuple b ys) (hu : A.units < cLine) (h : LtAt A.in1 s xs.toList ys.toList k) : RcLt A s (.ref l) (.ref b) k := fun prog w E Q q => by
  obtain ⟨⟨c1, d1, a1, s1⟩, ho, hc, n, hd⟩ := id hl
  obtain ⟨⟨c2, d2, a2, s2⟩, ho2, hc2, n2, hd2⟩ := id hb
  simp only at hc hd hc2 hd2
  subst hc hd hc2 hd2
  refine richCompare_meets_room (op := .Lt) ⟨_, ho, rfl⟩ ⟨_, ho2, rfl⟩ F.slot_tuple_lt F.entry_tuple_lt (F.args_tuple_lt_2 _ _) (tup_meets l b xs ys n n2 d1 d2 s1 s2 k) ⟨⟨ho, ho2⟩, h, ?_⟩ hu
  exact (⟨(fun x => nomatch x), q⟩ : Value.bool k ≠ Value.notImplemented ∧ Q (.bool k) s)
mutual
/-- x < y, where it can be said -/
def ltB : PyData → PyData → Option Bool
  | .int a, .int b => some (decide (a < b))
  | .str a, .str b => some (decide (a.cps.toList < b.cps.toList))
  | .bool a, .bool b => some (!a && b)
  | .tuple xs, .tuple ys => ltA xs ys
  | _, _ => none
def ltA : List PyData → List PyData → Option Bool
  | [], [] => some false
  | [], _ :: _ => some true
  | _ :: _, [] => some false
  | x :: xs, y :: ys => if PyData.eqv x y = true then ltA xs ys else ltB x y
end
theorem units_in1 (A : Around) : A.in1.units = A.units + 1 := rfl
mutual
theorem rc_lt : ∀ (x y : PyData) (A : Around) (s : Shared) (a b : Value) (as bs : List Addr) (k : Bool), Reads s.heap a x as → Reads s.heap b y bs → ltB x y = some k → x.canLay0 = true → y.canLay0 = true → A.units + x.depth < cLine → RcLt A s a b k
  | .int i, y, A, s, a, b, as, bs, k, ra, rb, h, _, _, _ => by
    cases y <;> simp only [ltB, reduceCtorEq, Option.some.injEq] at h
    cases ra
    cases rb
    intro prog w E Q q
    rw [← h] at q
    exact lt_int q
  | .str i, y, A, s, a, b, as, bs, k, ra, rb, h, _, _, _ => by
    cases y <;> simp only [ltB, reduceCtorEq, Option.some.injEq] at h
    cases ra
    cases rb
    intro prog w E Q q
    rw [← h] at q
    exact lt_str q
  | .bool i, .bool j, A, s, a, b, as, bs, k, ra, rb, h, _, _, _ => by
    simp only [ltB, Option.some.injEq] at h
    cases ra
    cases rb
    intro prog w E Q q
    rw [← h] at q
    have e : (!i && j) = decide ((if i then (1 : Int) else 0) < (if j then 1 else 0)) := by cases i <;> cases j <;> rfl
    rw [e] at q
    exact lt_bool q
  | .bool _, .none, _, _, _, _, _, _, _, _, _, h, _, _, _ => by simp [ltB] at h
  | .bool _, .int _, _, _, _, _, _, _, _, _, _, h, _, _, _ => by simp [ltB] at h
  | .bool _, .str _, _, _, _, _, _, _, _, _, _, h, _, _, _ => by simp [ltB] at h
  | .bool _, .list _, _, _, _, _, _, _, _, _, _, h, _, _, _ => by simp [ltB] at h
  | .bool _, .tuple _, _, _, _, _, _, _, _, _, _, h, _, _, _ => by simp [ltB] at h
  | .bool _, .dict _, _, _, _, _, _, _, _, _, _, h, _, _, _ => by simp [ltB] at h
  | .tuple xs, y, A, s, a, b, as, bs, k, ra, rb, h, c1, c2, hu => by
    cases y <;> simp [ltB] at h
    rename_i ys
    cases ra with
    | tuple k1 k2 k3 k4 =>
      cases rb with
      | tuple m1 m2 m3 m4 =>
        have hd : A.units + (PyData.depthAll xs + 1) < cLine := by simpa [PyData.depth] using hu
        exact tup_lt ⟨_, k1, k2, _, k3⟩ ⟨_, m1, m2, _, m3⟩ (by omega) (rc_ltA xs ys A.in1 s _ _ _ _ k k4 m4 h (by simpa [PyData.canLay0] using c1) (by simpa [PyData.canLay0] using c2) (by rw [units_in1]; omega))
  | .none, y, _, _, _, _, _, _, _, _, _, h, _, _, _ => by cases y <;> simp [ltB] at h
  | .list _, y, _, _, _, _, _, _, _, _, _, h, _, _, _ => by cases y <;> simp [ltB] at h
  | .dict _, y, _, _, _, _, _, _, _, _, _, h, _, _, _ => by cases y <;> simp [ltB] at h
theorem rc_ltA : ∀ (xs ys : List PyData) (A : Around) (s : Shared) (vs ws : List Value) (as bs : List Addr) (k : Bool), ReadsAll s.heap vs xs as → ReadsAll s.heap ws ys bs → ltA xs ys = some k → PyData.canLayAll0 xs = true → PyData.canLayAll0 ys = true →
    A.units + PyData.depthAll xs < cLine → LtAt A s vs ws k
  | [], [], A, s, _, _, _, _, k, ra, rb, h, _, _, _ => by
    cases ra
    cases rb
    simp only [ltA, Option.some.injEq] at h
    exact (show k = false from h.symm)
  | [], _ :: _, A, s, _, _, _, _, k, ra, rb, h, _, _, _ => by
    cases ra
    cases rb
    simp only [ltA, Option.some.injEq] at h
    exact (show k = true from h.symm)
  | _ :: _, [], A, s, _, _, _, _, k, ra, rb, h, _, _, _ => by
    cases ra
    cases rb
    simp only [ltA, Option.some.injEq] at h
    exact (show k = false from h.symm)
  | x :: xs, y :: ys, A, s, _, _, _, _, k, ra, rb, h, c1, c2, hu => by
    have d1 : x.canLay0 = true ∧ PyData.canLayAll0 xs = true := by simpa [PyData.canLayAll0] using c1
    have d2 : y.canLay0 = true ∧ PyData.canLayAll0 ys = true := by simpa [PyData.canLayAll0] using c2
    have hd : A.units + max x.depth (PyData.depthAll xs) < cLine := by simpa [PyData.depthAll] using hu
    cases ra with
    | cons r rs =>
      cases rb with
      | cons t ts =>
        have e := eqAt_reads x y A s _ _ _ _ r t d1.1 d2.1 (by omega)
        rw [ltA] at h
        by_cases q : PyData.eqv x y = true
        · rw [if_pos q] at h
          rw [q] at e
          exact .inl ⟨e, rc_ltA xs ys A s _ _ _ _ k rs ts h d1.2 d2.2 (by omega)⟩
        · rw [if_neg q] at h
          have q' : PyData.eqv x y = false := by simpa using q
          rw [q'] at e
          exact .inr ⟨e, rc_lt x y A s _ _ _ _ k r t h d1.1 d2.1 (by omega)⟩
end
end DnLt
set_option maxHeartbeats 2000000
namespace Dn
open PySem PySem.Spec PyProof.Rows L2
def addD : D → D → Option D
  | .int i, .int j => some (.int (i + j))
  | .str a, .str b => if a.length + b.length ≤ 16777216 then some (.str (a ++ b)) else none
  | .list a, .list b => if a.length + b.length ≤ 16777216 then some (.list (a ++ b)) else none
  | .tuple a, .tuple b => if a.length + b.length ≤ 16777216 then some (.tuple (a ++ b)) else none
  | _, _ => none
def subD : D → D → Option D
  | .int i, .int j => some (.int (i - j))
  | _, _ => none
def mulD : D → D → Option D
  | .int i, .int j => if i.natAbs.log2 + j.natAbs.log2 < 1000000 then some (.int (i * j)) else none
  | _, _ => none
/-- a product with a factor of less than 64 bits -/
def mulS : D → D → Option D
  | .int i, .int j => if -(2 ^ 64) < j ∧ j < 2 ^ 64 then some (.int (i * j)) else none
  | _, _ => none
def modD : D → D → Option D
  | .int i, .int j => if 0 < j then some (.int (i % j)) else none
  | _, _ => none
def fdivD : D → D → Option D
  | .int i, .int j => if 0 < j ∧ j < 18446744073709551616 then some (.int (i / j)) else none
  | _, _ => none
def negD : D → Option D
  | .int i => some (.int (-i))
  | _ => none
/-- the same, as Python's == says it -/
def eqT (d e : D) : Option Bool := match d, e with
  | .int a, .int b => some (decide (a = b))
  | .str a, .str b => some (decide (a = b))
  | .bool a, .bool b => some (decide (a = b))
  | .none, .none => some true
  | d, e => if SeqAt.shaped d = true ∧ SeqAt.shaped e = true then some (PyData.eqv d e) else none
def eqD (d e : D) : Option D := (eqT d e).bind fun b => some (.bool b)
def neD (d e : D) : Option D := (eqT d e).bind fun b => some (.bool (!b))
def ltT (d e : D) : Option Bool := match d, e with
  | .int a, .int b => some (decide (a < b))
  | .str a, .str b => some (decide (a.cps.toList < b.cps.toList))
  | d, e => if SeqAt.shaped d = true ∧ SeqAt.shaped e = true then DnLt.ltB d e else none
def ltD (d e : D) : Option D := (ltT d e).bind fun b => some (.bool b)
def leD : D → D → Option D
  | .int a, .int b => some (.bool (decide (a ≤ b)))
  | _, _ => none
def gtD : D → D → Option D
  | .int a, .int b => some (.bool (decide (b < a)))
  | _, _ => none
def geD : D → D → Option D
  | .int a, .int b => some (.bool (decide (b ≤ a)))
  | _, _ => none
def isN : D → Bool
  | .none => true
  | _ => false
def isD (d e : D) : Option D := match d, e with
  | d, .none => some (.bool (isN d))
  | .bool a, .bool b => some (.bool (decide (a = b)))
  | _, _ => none
def isntD (d e : D) : Option D := match d, e with
  | d, .none => some (.bool (!isN d))
  | .bool a, .bool b => some (.bool (!decide (a = b)))
  | _, _ => none
section
variable {X : Cx}
theorem op_addD : OpR X (binaryOp .Add) (rP2 (cxK X) addD) := by
  intro pins s σ H x y v u Q I rx ry h
  obtain ⟨F, d, e, r, sf, hd, he, ef, k⟩ := h
  unfold addD at ef
  split at ef
  · cases ef
    cases hd
    cases he
    exact op_add pins s σ H _ _ v u Q I rx ry ⟨_, _, rfl, rfl, k _ F H (Grow.refl sf) (.int _)⟩
  · split at ef
    · rename_i hl
      cases ef
      cases hd
      cases he
      exact op_add_str pins s σ H _ _ v u Q I rx ry ⟨_, _, rfl, rfl, by rw [line_eq]; exact hl, k _ F H (Grow.refl sf) (.str _)⟩
    · cases ef
  · split at ef
    · rename_i as bs hl
      cases ef
      cases hd with
      | lst h1 d1 =>
        cases he with
        | lst h2 d2 =>
          cases rx
          cases ry
          rename_i l xs b ys
          obtain ⟨its, r1, p1, z1⟩ := I.list (sf.seq h1)
          obtain ⟨its2, r2, p2, z2⟩ := I.list (sf.seq h2)
          obtain ⟨o1, n1, g1, c1, q1, t1⟩ := p1
          obtain ⟨o2, n2, g2, c2, q2, t2⟩ := p2
          obtain ⟨cls, dd, data, sl⟩ := o1
          obtain ⟨cls2, dd2, data2, sl2⟩ := o2
          simp only at c1 q1 t1 c2 q2 t2
          subst c1 q1 t1 c2 q2 t2
          have hsz : xs.length + ys.length ≤ sizeLine := by rw [line_eq, da_len d1, da_len d2]; exact hl
          refine concat_meets ⟨_, g1, rfl⟩ ⟨_, g2, rfl⟩ noFill_list_add seq_list_add PySem.F.slot_list_add PySem.F.entry_list_add (PySem.F.args_list_add_2 _ _)
            (list_addW l b its.toArray its2.toArray n1 n2 none none sl sl2 (by simpa [← r1.length, ← r2.length] using hsz)) ⟨g1, g2, ?_⟩
          have ea : its.toArray ++ its2.toArray = (its ++ its2).toArray := by simp
          rw [ea]
          have gr : Grow F H (upd F s.heap.objs.size (.lst (xs ++ ys))) (upd H s.heap.objs.size (.lst (xs ++ ys))) := Grow.val sf I.fresh
          exact ⟨.ref _, _, I.lnew (t' := s.toks) (r1.append r2) (by rw [List.length_append]; exact hsz), rfl, k _ _ _ gr (.lst (.inl (.inl upd_same)) (dpAll_mono gr.ff _ _ (da_app d1 d2)))⟩
    · cases ef
  · split at ef
    · rename_i as bs hl
      cases ef
      cases hd with
      | tup h1 d1 =>
        cases he with
        | tup h2 d2 =>
          rename_i a xs b ys
          have hsz : xs.length + ys.length ≤ sizeLine := by rw [line_eq, da_len d1, da_len d2]; exact hl
          refine op_catA pins s σ H _ _ v u Q I rx ry ⟨a, b, xs, ys, rfl, rfl, seqT_same sf h1, seqT_same sf h2, hsz, fun e => ?_, fun _ e => ?_, fun _ _ p hp => ?_⟩
          · subst e
            cases d1
            exact k _ F H (Grow.refl sf) (.tup h2 d2)
          · subst e
            cases d2
            rw [List.append_nil] at k
            exact k _ F H (Grow.refl sf) (.tup h1 d1)
          · have gr : Grow F H (upd F p (.tup (xs ++ ys))) (upd H p (.tup (xs ++ ys))) := Grow.val sf hp
            exact k _ _ _ gr (.tup (.inl (.inl upd_same)) (dpAll_mono gr.ff _ _ (da_app d1 d2)))
    · cases ef
  · cases ef
theorem op_subD : OpR X (binaryOp .Sub) (rP2 (cxK X) subD) := by
  intro pins s σ H x y v u Q I rx ry h
  obtain ⟨F, d, e, r, sf, hd, he, ef, k⟩ := h
  unfold subD at ef
  split at ef
  · cases ef
    cases hd
    cases he
    exact op_sub pins s σ H _ _ v u Q I rx ry ⟨_, _, rfl, rfl, k _ F H (Grow.refl sf) (.int _)⟩
  · cases ef
theorem op_mulD : OpR X (binaryOp .Mult) (rP2 (cxK X) mulD) := by
  intro pins s σ H x y v u Q I rx ry h
  obtain ⟨F, d, e, r, sf, hd, he, ef, k⟩ := h
  unfold mulD at ef
  split at ef
  · split at ef
    · rename_i hl
      cases ef
      cases hd
      cases he
      exact op_mulW pins s σ H _ _ v u Q I rx ry ⟨_, _, rfl, rfl, hl, k _ F H (Grow.refl sf) (.int _)⟩
    · cases ef
  · cases ef
theorem op_mulS : OpR X (binaryOp .Mult) (rP2 (cxK X) mulS) := by
  intro pins s σ H x y v u Q I rx ry h
  obtain ⟨F, d, e, r, sf, hd, he, ef, k⟩ := h
  unfold mulS at ef
  split at ef
  · split at ef
    · rename_i hl
      cases ef
      cases hd
      cases he
      exact op_mul pins s σ H _ _ v u Q I rx ry ⟨_, _, rfl, rfl, .inr hl, k _ F H (Grow.refl sf) (.int _)⟩
    · cases ef
  · cases ef
theorem op_modD : OpR X (binaryOp .Mod) (rP2 (cxK X) modD) := by
  intro pins s σ H x y v u Q I rx ry h
  obtain ⟨F, d, e, r, sf, hd, he, ef, k⟩ := h
  unfold modD at ef
  split at ef
  · split at ef
    · rename_i hl
      cases ef
      cases hd
      cases he
      exact op_mod pins s σ H _ _ v u Q I rx ry ⟨_, _, rfl, rfl, hl, k _ F H (Grow.refl sf) (.int _)⟩
    · cases ef
  · cases ef
theorem log_64 {j : Int} (h0 : 0 < j) (h : j < 18446744073709551616) : j.natAbs.log2 < 9000 := by
  have z : j.natAbs ≠ 0 := by omega
  have h1 : j.natAbs < 2 ^ 64 := by omega
  exact Nat.lt_of_lt_of_le ((Nat.log2_lt z).mpr h1) (by decide)
theorem op_fdivD : OpR X (binaryOp .FloorDiv) (rP2 (cxK X) fdivD) := by
  intro pins s σ H x y v u Q I rx ry h
  obtain ⟨F, d, e, r, sf, hd, he, ef, k⟩ := h
  unfold fdivD at ef
  split at ef
  · split at ef
    · rename_i hl
      cases ef
      cases hd
      cases he
      exact op_fdivW pins s σ H _ _ v u Q I rx ry ⟨_, _, rfl, rfl, ⟨hl.1, log_64 hl.1 hl.2⟩, k _ F H (Grow.refl sf) (.int _)⟩
    · cases ef
  · cases ef
theorem un_negD : UnR X (unaryOp .USub) (rP1 (cxK X) negD) := by
  intro pins s σ H x v Q I rx h
  obtain ⟨F, d, r, sf, hd, ef, k⟩ := h
  unfold negD at ef
  split at ef
  · cases ef
    cases hd
    exact un_neg pins s σ H _ v Q I rx ⟨_, rfl, k _ F H (Grow.refl sf) (.int _)⟩
  · cases ef
theorem op_eqD' (hu : X.A.units + 64 < cLine) : OpR X (compareOp .Eq) (rP2 (cxK X) eqD) := by
  intro pins s σ H x y v u Q I rx ry h
  obtain ⟨F, d, e, r, sf, hd, he, ef, k⟩ := h
  obtain ⟨b, e1, e2⟩ := bind_some ef
  cases e2
  have q := k (.bl b) F H (Grow.refl sf) (.bl _)
  unfold eqT at e1
  split at e1
  · cases e1
    cases hd
    cases he
    refine op_eq pins s σ H _ _ v u Q I rx ry ⟨rfl, ?_⟩
    rw [dec_int, Bool.beq_eq_decide_eq]
    exact q
  · cases e1
    cases hd
    cases he
    refine op_eq pins s σ H _ _ v u Q I rx ry ⟨rfl, ?_⟩
    rw [dec_str, Bool.beq_eq_decide_eq]
    exact q
  · cases e1
    cases hd
    cases he
    refine op_eq pins s σ H _ _ v u Q I rx ry ⟨rfl, ?_⟩
    rw [dec_bl, Bool.beq_eq_decide_eq]
    exact q
  · cases e1
    cases hd
    cases he
    exact op_eq pins s σ H _ _ v u Q I rx ry ⟨rfl, q⟩
  · split at e1
    · rename_i hs
      cases e1
      exact op_eqD hu pins s σ H _ _ v u Q I rx ry ⟨d, e, rp_dp (dp_mono sf _ _ hd) (SeqAt.canLay_of_shaped hs.1), rp_dp (dp_mono sf _ _ he) (SeqAt.canLay_of_shaped hs.2), hs.1, hs.2, q⟩
    · cases e1
theorem op_neD' (hu : X.A.units + 64 < cLine) : OpR X (compareOp .NotEq) (rP2 (cxK X) neD) := by
  intro pins s σ H x y v u Q I rx ry h
  obtain ⟨F, d, e, r, sf, hd, he, ef, k⟩ := h
  obtain ⟨b, e1, e2⟩ := bind_some ef
  cases e2
  have q := k (.bl (!b)) F H (Grow.refl sf) (.bl _)
  unfold eqT at e1
  split at e1
  · cases e1
    cases hd
    cases he
    refine op_ne pins s σ H _ _ v u Q I rx ry ⟨rfl, ?_⟩
    rw [dec_int, Bool.beq_eq_decide_eq]
    exact q
  · cases e1
    cases hd
    cases he
    refine op_ne pins s σ H _ _ v u Q I rx ry ⟨rfl, ?_⟩
    rw [dec_str, Bool.beq_eq_decide_eq]
    exact q
  · cases e1
    cases hd
    cases he
    refine op_ne pins s σ H _ _ v u Q I rx ry ⟨rfl, ?_⟩
    rw [dec_bl, Bool.beq_eq_decide_eq]
    exact q
  · cases e1
    cases hd
    cases he
    exact op_ne pins s σ H _ _ v u Q I rx ry ⟨rfl, q⟩
  · split at e1
    · rename_i hs
      cases e1
      exact op_neD hu pins s σ H _ _ v u Q I rx ry ⟨d, e, rp_dp (dp_mono sf _ _ hd) (SeqAt.canLay_of_shaped hs.1), rp_dp (dp_mono sf _ _ he) (SeqAt.canLay_of_shaped hs.2), hs.1, hs.2, q⟩
    · cases e1
theorem op_ltD (hu : X.A.units + 64 < cLine) : OpR X (compareOp .Lt) (rP2 (cxK X) ltD) := by
  intro pins s σ H x y v u Q I rx ry h
  obtain ⟨F, d, e, r, sf, hd, he, ef, k⟩ := h
  obtain ⟨b, e1, e2⟩ := bind_some ef
  cases e2
  have q := k (.bl b) F H (Grow.refl sf) (.bl _)
  unfold ltT at e1
  split at e1
  · cases e1
    cases hd
    cases he
    exact op_lt pins s σ H _ _ v u Q I rx ry ⟨_, _, rfl, rfl, q⟩
  · cases e1
    cases hd
    cases he
    exact op_lt_str pins s σ H _ _ v u Q I rx ry ⟨_, _, rfl, rfl, q⟩
  · split at e1
    · rename_i hs
      obtain ⟨as, r1⟩ := Dp.reads I d x v (rp_dp (dp_mono sf _ _ hd) (SeqAt.canLay_of_shaped hs.1)) rx
      obtain ⟨bs, r2⟩ := Dp.reads I e y u (rp_dp (dp_mono sf _ _ he) (SeqAt.canLay_of_shaped hs.2)) ry
      have hdp := SeqAt.depth_of_shaped hs.1
      exact DnLt.rc_lt d e X.A s v u as bs b r1 r2 e1 (SeqAt.canLay_of_shaped hs.1) (SeqAt.canLay_of_shaped hs.2) (by omega) X.prog X.w _ _ ⟨.bl b, H, I, rfl, q⟩
    · cases e1
theorem op_gtD : OpR X (compareOp .Gt) (rP2 (cxK X) gtD) := by
  intro pins s σ H x y v u Q I rx ry h
  obtain ⟨F, d, e, r, sf, hd, he, ef, k⟩ := h
  unfold gtD at ef
  split at ef
  · cases ef
    cases hd
    cases he
    exact op_gt pins s σ H _ _ v u Q I rx ry ⟨_, _, rfl, rfl, k _ F H (Grow.refl sf) (.bl _)⟩
  · cases ef
theorem op_geD : OpR X (compareOp .GtE) (rP2 (cxK X) geD) := by
  intro pins s σ H x y v u Q I rx ry h
  obtain ⟨F, d, e, r, sf, hd, he, ef, k⟩ := h
  unfold geD at ef
  split at ef
  · cases ef
    cases hd
    cases he
    exact op_ge pins s σ H _ _ v u Q I rx ry ⟨_, _, rfl, rfl, k _ F H (Grow.refl sf) (.bl _)⟩
  · cases ef
theorem isN_dp {K : Kx} {F : Hp} {x : V} {d : D} (h : Rp K F x d) : decide (x = .non) = isN d := by
  cases h <;> rfl
theorem op_isD : OpR X (compareOp .Is) (rP2 (cxK X) isD) := by
  intro pins s σ H x y v u Q I rx ry h
  obtain ⟨F, d, e, r, sf, hd, he, ef, k⟩ := h
  unfold isD at ef
  split at ef
  · cases ef
    cases he
    refine op_isN pins s σ H _ _ v u Q I rx ry ⟨rfl, ?_⟩
    rw [isN_dp hd]
    exact k _ F H (Grow.refl sf) (.bl _)
  · cases ef
    cases hd
    cases he
    exact op_is_bl pins s σ H _ _ v u Q I rx ry ⟨_, _, rfl, rfl, k _ F H (Grow.refl sf) (.bl _)⟩
  · cases ef
end
def ixA {α : Type} (xs : List α) (i : Int) : Option α := if 0 ≤ i then xs[i.toNat]? else if -(xs.length : Int) ≤ i then xs[(i + xs.length).toNat]? else none
def ixD : D → D → Option D
  | .list xs, .int i => ixA xs i
  | .tuple xs, .int i => ixA xs i
  | _, _ => none
theorem ixA_at {α : Type} {xs : List α} {i : Int} {x : α} (h : ixA xs i = some x) : atI xs i = some x := by
  unfold ixA at h
  unfold atI ixN
  split at h
  · rename_i h0
    have hl : i.toNat < xs.length := (List.getElem?_eq_some_iff.mp h).1
    rw [if_pos h0, if_pos (by omega)]
    exact h
  · rename_i h0
    split at h
    · rename_i h1
      rw [if_neg h0, if_pos h1]
      exact h
    · cases h
theorem da_ix {K : Kx} {F : Hp} {vs : List V} {ds : List D} {i : Int} {d : D} (r : RpAll K F vs ds) (h : ixA ds i = some d) : ∃ v, ixA vs i = some v ∧ Rp K F v d := by
  have hl := da_len r
  unfold ixA at h ⊢
  split at h
  · rename_i h0
    rw [if_pos h0]
    exact da_at r h
  · rename_i h0
    rw [if_neg h0]
    split at h
    · rename_i h1
      rw [if_pos (by rw [hl]; exact h1), hl]
      exact da_at r h
    · cases h
section
variable {X : Cx}
theorem ix_D : IxR X (rP2 (cxK X) ixD) := by
  intro value slice pins s σ H x y v u Q I rx ry h hs
  obtain ⟨F, d, e, r, sf, hd, he, ef, k⟩ := h
  unfold ixD at ef
  split at ef
  · cases he
    cases hd with
    | lst h1 d1 =>
      obtain ⟨z, e1, rz⟩ := da_ix d1 ef
      exact ix_list value slice pins s σ H _ _ v u Q I rx ry ⟨_, _, _, z, rfl, rfl, sf.seq h1, ixA_at e1, k z F H (Grow.refl sf) rz⟩ hs
  · cases he
    cases hd with
    | tup h1 d1 =>
      obtain ⟨z, e1, rz⟩ := da_ix d1 ef
      exact ix_tup value slice pins s σ H _ _ v u Q I rx ry ⟨_, _, _, z, rfl, rfl, seqT_same sf h1, ixA_at e1, k z F H (Grow.refl sf) rz⟩ hs
  · cases ef
end
def gNoP : Md (Option Int) := fun ρ => some (none, ρ)
def iOf : D → Option Int
  | .int i => some i
  | _ => none
def gPart (g : Md D) : Md (Option Int) := fun ρ => (g ρ).bind fun p => (iOf p.1).bind fun i => some (some i, p.2)
def tDO (K : Kx) (g : Md (Option Int)) : TO := fun σ H Q => ∃ (F : Hp) (ρ : Env) (d : Option Int) (ρ' : Env), St K F H σ ρ ∧ g ρ = some (d, ρ') ∧
  ∀ F' H', Stp F σ ρ H F' σ ρ' H' → St K F' H' σ ρ' → Q d H'
abbrev DO (X : Cx) (e : Option Expr) (g : Md (Option Int)) : Prop := PO X e (tDO (cxK X) g)
theorem po_imp {X : Cx} {e : Option Expr} {t t' : TO} (h : PO X e t) (i : ∀ σ H Q, t' σ H Q → t σ H Q) : PO X e t' := ⟨fun pins s σ H Q I q => h.run pins s σ H Q I (i σ H Q q)⟩
theorem iOf_some {d : D} {i : Int} (h : iOf d = some i) : d = .int i := by
  cases d <;> simp [iOf] at h
  subst h
  rfl
theorem do_none {X : Cx} : DO X none gNoP := po_imp po_none fun σ H Q q => by
  obtain ⟨F, ρ, d, ρ', s, eg, k⟩ := q
  cases eg
  exact k F H Stp.refl s
theorem do_some {X : Cx} {e : Expr} {g : Md D} (h : DE X e g) : DO X (some e) (gPart g) := po_imp (po_some h) fun σ H Q q => by
  obtain ⟨F, ρ, d, ρ', s, eg, k⟩ := q
  obtain ⟨⟨x, ρ1⟩, e1, eg1⟩ := bind_some eg
  obtain ⟨z, e3, eg2⟩ := bind_some eg1
  cases eg2
  have e5 := iOf_some e3
  subst e5
  exact ⟨F, ρ, _, _, s, e1, fun v F1 H1 p1 s1 r1 => ⟨z, by cases r1; rfl, k F1 H1 p1 s1⟩⟩
def cutA {α : Type} (xs : List α) (lo hi : Option Int) : List α := (xs.drop (HT.sIx xs.length 0 lo)).take (HT.sIx xs.length xs.length hi - HT.sIx xs.length 0 lo)
def cutD (d : D) (lo hi : Option Int) : Option D := match d with
  | .list xs => some (.list (cutA xs lo hi))
  | .tuple xs => some (.tuple (cutA xs lo hi))
  | _ => none
def gSl (ga : Md D) (gl gh : Md (Option Int)) : Md D := fun ρ => (ga ρ).bind fun p => (gl p.2).bind fun q => (gh q.2).bind fun r => (cutD p.1 q.1 r.1).bind fun d => some (d, r.2)
theorem da_cut {K : Kx} {F : Hp} {vs : List V} {ds : List D} (r : RpAll K F vs ds) (lo hi : Option Int) : RpAll K F (cutV vs lo hi) (cutA ds lo hi) := by
  have hl := da_len r
  unfold cutV cutA
  rw [hl]
  exact da_take _ (da_drop _ r)
section
variable {X : Cx} {e : Expr} {lo hi : Option Expr} {pos p2 : Pos}
theorem de_slice {ga : Md D} {gl gh : Md (Option Int)} (he : DE X e ga) (hl : DO X lo gl) (hh : DO X hi gh) : DE X (.Subscript e (.Slice lo hi none p2) pos) (gSl ga gl gh) :=
  pe_imp (pe_slice (sl_list.or sl_tupA) he hl hh) fun σ H Q q => by
    obtain ⟨F, ρ, d, ρ', s, eg, k⟩ := q
    obtain ⟨⟨x, ρ1⟩, e1, eg1⟩ := bind_some eg
    obtain ⟨⟨l, ρ2⟩, e2, eg2⟩ := bind_some eg1
    obtain ⟨⟨h, ρ3⟩, e3, eg3⟩ := bind_some eg2
    obtain ⟨z, e4, eg4⟩ := bind_some eg3
    cases eg4
    refine ⟨F, ρ, x, ρ1, s, e1, fun v F1 H1 p1 s1 r1 => ⟨F1, ρ1, l, ρ2, s1, e2, fun F2 H2 p2 s2 => ⟨F2, ρ2, h, _, s2, e3, fun F3 H3 p3 s3 => ?_⟩⟩⟩
    have pp := p1.trans (p2.trans p3)
    have r3 : Rp (cxK X) F3 v x := dp_mono (p2.ff.trans p3.ff) _ _ r1
    have e5 : cutD x l h = some _ := e4
    clear e4 eg3 eg2 eg1 eg
    cases x with
    | list xs =>
      cases e5
      cases r3 with
      | @lst a vs _ h1 d1 =>
        refine .inl ⟨a, vs, rfl, s3.sub.seq h1, fun p hp => ?_⟩
        have gr : Grow F3 H3 (upd F3 p (.lst (cutV vs l h))) (upd H3 p (.lst (cutV vs l h))) := Grow.val s3.sub hp
        exact k _ _ _ (pp.trans (gr.stp σ _)) (s3.grow gr) (.lst (.inl (.inl upd_same)) (dpAll_mono gr.ff _ _ (da_cut d1 l h)))
    | tuple xs =>
      cases e5
      cases r3 with
      | @tup a vs _ h1 d1 =>
        refine .inr ⟨a, vs, rfl, seqT_same s3.sub h1, fun hw => ?_, fun _ p hp => ?_⟩
        · have hl := da_len d1
          have ec : ∀ (xs : List D), HT.sIx xs.length 0 l = 0 ∧ HT.sIx xs.length xs.length h = xs.length → cutA xs l h = xs := fun xs w => by
            unfold cutA
            rw [w.1, w.2]
            simp
          rw [ec _ (by rw [← hl]; exact hw)] at k
          exact k _ _ _ pp s3 (.tup h1 d1)
        · have gr : Grow F3 H3 (upd F3 p (.tup (cutV vs l h))) (upd H3 p (.tup (cutV vs l h))) := Grow.val s3.sub hp
          exact k _ _ _ (pp.trans (gr.stp σ _)) (s3.grow gr) (.tup (.inl (.inl upd_same)) (dpAll_mono gr.ff _ _ (da_cut d1 l h)))
    | none => cases e5
    | bool _ => cases e5
    | int _ => cases e5
    | str _ => cases e5
    | dict _ => cases e5
end
def lenF : List D → Option D
  | [.list xs] => some (.int xs.length)
  | [.tuple xs] => some (.int xs.length)
  | [.str x] => if x.length ≤ 16777216 then some (.int x.length) else none
  | _ => none
def intF : List D → Option D
  | [.int i] => some (.int i)
  | [.bool b] => some (.int (if b then 1 else 0))
  | _ => none
def absF : List D → Option D
  | [.int i] => some (.int (if i < 0 then -i else i))
  | _ => none
def maxF : List D → Option D
  | [.int i, .int j] => some (.int (if j > i then j else i))
  | _ => none
def minF : List D → Option D
  | [.int i, .int j] => some (.int (if j < i then j else i))
  | _ => none
def tupF : List D → Option D
  | [.list xs] => some (.tuple xs)
  | [.tuple xs] => some (.tuple xs)
  | _ => none
def lstF : List D → Option D
  | [.list xs] => some (.list xs)
  | [.tuple xs] => some (.list xs)
  | _ => none
def strF : List D → Option D
  | [.int i] => if i.natAbs.log2 < 1920 then some (.str (toString i)) else none
  | _ => none
def ordF : List D → Option D
  | [.str x] => if x.length = 1 then some (.int (x.cps.getD 0 0 : Nat)) else none
  | _ => none
section
variable {X : Cx}
theorem da1 {K : Kx} {F : Hp} {vs : List V} {d : D} (h : RpAll K F vs [d]) : ∃ v, vs = [v] ∧ Rp K F v d := by
  cases h with
  | cons h t =>
    cases t
    exact ⟨_, rfl, h⟩
theorem da2 {K : Kx} {F : Hp} {vs : List V} {d e : D} (h : RpAll K F vs [d, e]) : ∃ v w, vs = [v, w] ∧ Rp K F v d ∧ Rp K F w e := by
  cases h with
  | cons h t =>
    obtain ⟨w, rfl, r⟩ := da1 t
    exact ⟨_, w, rfl, h, r⟩
theorem call_lenD : CallR X (.builtin "len") (rPn (cxK X) lenF) := by
  intro pins s σ H xs us Q I rx h
  obtain ⟨F, ds, r, sf, hd, ef, k⟩ := h
  unfold lenF at ef
  split at ef
  · cases ef
    obtain ⟨v, rfl, hv⟩ := da1 hd
    cases hv with
    | lst h1 d1 => exact call_len_seq pins s σ H _ us Q I rx ⟨_, _, rfl, .inl (sf.seq h1), by rw [da_len d1]; exact k _ F H (Grow.refl sf) (.int _)⟩
  · cases ef
    obtain ⟨v, rfl, hv⟩ := da1 hd
    cases hv with
    | tup h1 d1 => exact call_len_seq pins s σ H _ us Q I rx ⟨_, _, rfl, .inr (seqT_same sf h1), by rw [da_len d1]; exact k _ F H (Grow.refl sf) (.int _)⟩
  · split at ef
    · rename_i hl
      cases ef
      obtain ⟨v, rfl, hv⟩ := da1 hd
      cases hv
      exact call_len_str pins s σ H _ us Q I rx ⟨_, rfl, by rw [line_eq]; exact hl, k _ F H (Grow.refl sf) (.int _)⟩
    · cases ef
  · cases ef
theorem call_intD : CallR X (.type "int") (rPn (cxK X) intF) := by
  intro pins s σ H xs us Q I rx h
  obtain ⟨F, ds, r, sf, hd, ef, k⟩ := h
  unfold intF at ef
  split at ef
  · cases ef
    obtain ⟨v, rfl, hv⟩ := da1 hd
    cases hv
    exact call_int1 pins s σ H _ us Q I rx (.inl ⟨_, rfl, k _ F H (Grow.refl sf) (.int _)⟩)
  · cases ef
    obtain ⟨v, rfl, hv⟩ := da1 hd
    cases hv
    exact call_int1 pins s σ H _ us Q I rx (.inr ⟨_, rfl, k _ F H (Grow.refl sf) (.int _)⟩)
  · cases ef
theorem call_absD : CallR X (.builtin "abs") (rPn (cxK X) absF) := by
  intro pins s σ H xs us Q I rx h
  obtain ⟨F, ds, r, sf, hd, ef, k⟩ := h
  unfold absF at ef
  split at ef
  · cases ef
    obtain ⟨v, rfl, hv⟩ := da1 hd
    cases hv
    exact call_abs pins s σ H _ us Q I rx ⟨_, rfl, k _ F H (Grow.refl sf) (.int _)⟩
  · cases ef
theorem call_maxD (hc : X.calm = true) : CallR X (.builtin "max") (rPn (cxK X) maxF) := by
  intro pins s σ H xs us Q I rx h
  obtain ⟨F, ds, r, sf, hd, ef, k⟩ := h
  unfold maxF at ef
  split at ef
  · cases ef
    obtain ⟨v, w, rfl, hv, hw⟩ := da2 hd
    cases hv
    cases hw
    exact call_max2 hc pins s σ H _ us Q I rx ⟨_, _, rfl, k _ F H (Grow.refl sf) (.int _)⟩
  · cases ef
theorem call_minD (hc : X.calm = true) : CallR X (.builtin "min") (rPn (cxK X) minF) := by
  intro pins s σ H xs us Q I rx h
  obtain ⟨F, ds, r, sf, hd, ef, k⟩ := h
  unfold minF at ef
  split at ef
  · cases ef
    obtain ⟨v, w, rfl, hv, hw⟩ := da2 hd
    cases hv
    cases hw
    exact call_min2 hc pins s σ H _ us Q I rx ⟨_, _, rfl, k _ F H (Grow.refl sf) (.int _)⟩
  · cases ef
theorem call_tupD : CallR X (.type "tuple") (rPn (cxK X) tupF) := by
  intro pins s σ H xs us Q I rx h
  obtain ⟨F, ds, r, sf, hd, ef, k⟩ := h
  unfold tupF at ef
  split at ef
  · cases ef
    obtain ⟨v, rfl, hv⟩ := da1 hd
    cases hv with
    | @lst a vs _ h1 d1 =>
      refine call_tuple_of pins s σ H _ us Q I rx ⟨a, vs, rfl, .inl ⟨sf.seq h1, fun p hp => ?_⟩⟩
      have gr : Grow F H (upd F p (.tup vs)) (upd H p (.tup vs)) := Grow.val sf hp
      exact k _ _ _ gr (.tup (.inl (.inl upd_same)) (dpAll_mono gr.ff _ _ d1))
  · cases ef
    obtain ⟨v, rfl, hv⟩ := da1 hd
    cases hv with
    | tup h1 d1 => exact call_tuple_of pins s σ H _ us Q I rx ⟨_, _, rfl, .inr ⟨seqT_same sf h1, k _ F H (Grow.refl sf) (.tup h1 d1)⟩⟩
  · cases ef
theorem call_lstD : CallR X (.type "list") (rFn (cxK X) lstF) := by
  intro pins s σ H xs us Q I rx h
  obtain ⟨F, ds, r, sf, hd, ef, k⟩ := h
  unfold lstF at ef
  split at ef
  · cases ef
    obtain ⟨v, rfl, hv⟩ := da1 hd
    cases hv with
    | lst h1 d1 => exact call_list_of pins s σ H _ us Q I rx ⟨_, _, rfl, .inl (sf.seq h1), fun p hp => k p _ _ (Grow.own sf hp) (own_new sf hp d1) hp⟩
  · cases ef
    obtain ⟨v, rfl, hv⟩ := da1 hd
    cases hv with
    | tup h1 d1 => exact call_list_of pins s σ H _ us Q I rx ⟨_, _, rfl, .inr (seqT_same sf h1), fun p hp => k p _ _ (Grow.own sf hp) (own_new sf hp d1) hp⟩
  · cases ef
end
/-- the built-in class of a datum -/
def tyD : D → String
  | .none => "NoneType"
  | .bool _ => "bool"
  | .int _ => "int"
  | .str _ => "str"
  | .list _ => "list"
  | .tuple _ => "tuple"
  | .dict _ => "dict"
/-- its type is told by the datum -/
def tyOk : D → Bool
  | .dict ((.int _, _) :: _) => true
  | .dict ((.str _, _) :: _) => true
  | .dict _ => false
  | _ => true
def isiF (T : String) : List D → Option D
  | [d] => if tyOk d = true then (kitB (tyD d) T).bind fun b => some (.bool b) else none
  | _ => none
section
variable {X : Cx}
theorem dp_ty {K : Kx} {F H : Hp} {v : V} {d : D} (s : Same F H) (h : Rp K F v d) (ok : tyOk d = true) : TyX K H v (.type (tyD d)) := by
  cases h with
  | non => exact .base .non
  | bl b => exact .base (.bl b)
  | int i => exact .base (.int i)
  | str x => exact .base (.str x)
  | lst h1 _ =>
    rcases h1 with (h1 | ⟨o, h1⟩) | ⟨o, its, n, h1, h2, _⟩
    · exact .base (.lst (s _ _ h1))
    · exact .base (.frz (s _ _ h1))
    · exact .kList h1 h2
  | dic h1 _ _ => exact .fDict (s _ _ h1)
  | dicE h1 => exact .fDict (s _ _ h1)
  | dicN _ hr =>
    cases hr with
    | nil => cases ok
    | @cons k ka x dk dv xs es hk h1 h2 h3 =>
      cases dk <;> first | (cases h1; done) | (simp [tyOk] at ok; done)
  | tup h1 _ =>
    rcases h1 with (h1 | ⟨o, h1⟩) | ⟨o, its, n, h1, h2, _⟩
    · exact .base (.tup (s _ _ h1))
    · exact .fTuple (s _ _ h1)
    · exact .kTuple h1 h2
theorem isi_cut {T : String} {vs : List V} {H : Hp} {Q : VK} (h : rPn (cxK X) (isiF T) vs H Q) : rIsi (cxK X) (vs ++ [.ty T]) H Q := by
  obtain ⟨F, ds, r, sf, hd, ef, k⟩ := h
  unfold isiF at ef
  split at ef
  · split at ef
    · rename_i ok
      obtain ⟨v, rfl, hv⟩ := da1 hd
      obtain ⟨b, e1, e2⟩ := bind_some ef
      cases e2
      exact ⟨v, .ty T, _, _, b, rfl, .ty T, dp_ty sf hv ok, kit_ty e1, k _ F H (Grow.refl sf) (.bl _)⟩
    · cases ef
  · cases ef
end
end Dn
set_option maxHeartbeats 2000000
namespace Dn
open PySem PySem.Spec PyProof.Rows L2
section
variable {X : Cx} {e a b c : Expr} {es : List Expr} {pos p cpos apos : Pos} {x : Str}
theorem app_q {r : List V → Hp → VK → Prop} {f : List D → Option D} {gs : Md (List D)} (hr : r = rPn (cxK X) f) {σ : L2.St} {H : Hp} {Q : VK} (q : tD (cxK X) (gApp f gs) σ H Q) : tDA (cxK X) gs σ H fun vs H1 => r vs H1 Q := by
  subst hr
  obtain ⟨F, ρ, d, ρ', s, eg, k⟩ := q
  obtain ⟨⟨ds, ρ1⟩, e1, eg1⟩ := bind_some eg
  obtain ⟨z, e3, eg2⟩ := bind_some eg1
  cases eg2
  exact ⟨F, ρ, ds, _, s, e1, fun vs F1 H1 p1 s1 r1 => ⟨F1, ds, _, s1.sub, r1, e3, fun w F3 H3 gr rw' => k w F3 H3 (p1.trans (gr.stp σ _)) (s1.grow gr) rw'⟩⟩
theorem appF_q {r : List V → Hp → VK → Prop} {f : List D → Option D} {gs : Md (List D)} (hr : r = rFn (cxK X) f) {σ : L2.St} {H : Hp} {Q : VK} (q : tF (cxK X) (gApp f gs) σ H Q) : tDA (cxK X) gs σ H fun vs H1 => r vs H1 Q := by
  subst hr
  obtain ⟨F, ρ, d, ρ', s, eg, k⟩ := q
  obtain ⟨⟨ds, ρ1⟩, e1, eg1⟩ := bind_some eg
  obtain ⟨z, e3, eg2⟩ := bind_some eg1
  cases eg2
  exact ⟨F, ρ, ds, _, s, e1, fun vs F1 H1 p1 s1 r1 => ⟨F1, ds, _, s1.sub, r1, e3, fun a F3 H3 gr o hn => k a F3 H3 (p1.trans (gr.stp σ _)) (s1.grow gr) o (not_owns s1 hn) (p1.none hn)⟩⟩
theorem de_callB {id : String} {f : List D → Option D} {gs : Md (List D)} (hc : CallR X (.builtin id) (rPn (cxK X) f)) (hg : Gl X x) (hm : X.mg x = none) (hv : bootBuiltins x = some (.builtin id)) (ha : DA X (e :: es) gs) (hn : x ≠ "__name__" := by decide) (hdb : (x == ("__debug__" : Str)) = false := by decide)
    (he : starEach (e :: es) X.env = (false, eval e X.env) :: starEach es X.env := by rfl) (hpl : (backTo pos (starEach es X.env)).any (·.1) = false := by rfl) : DE X (.Call (.Name x p) (e :: es) [] pos) (gApp f gs) :=
  pe_imp (pe_callB hc hg hm hv ha hn hdb he hpl) fun _ _ _ q => app_q rfl q
theorem de_callTy {T : String} {f : List D → Option D} {gs : Md (List D)} (hc : CallR X (.type T) (rPn (cxK X) f)) (hg : Gl X x) (hm : X.mg x = none) (hv : bootBuiltins x = some (.type T)) (ha : DA X (e :: es) gs) (hn : x ≠ "__name__" := by decide) (hdb : (x == ("__debug__" : Str)) = false := by decide)
    (he : starEach (e :: es) X.env = (false, eval e X.env) :: starEach es X.env := by rfl) (hpl : (backTo pos (starEach es X.env)).any (·.1) = false := by rfl) : DE X (.Call (.Name x p) (e :: es) [] pos) (gApp f gs) :=
  pe_imp (pe_callTy hc hg hm hv ha hn hdb he hpl) fun _ _ _ q => app_q rfl q
theorem df_callTy {T : String} {f : List D → Option D} {gs : Md (List D)} (hc : CallR X (.type T) (rFn (cxK X) f)) (hg : Gl X x) (hm : X.mg x = none) (hv : bootBuiltins x = some (.type T)) (ha : DA X (e :: es) gs) (hn : x ≠ "__name__" := by decide) (hdb : (x == ("__debug__" : Str)) = false := by decide)
    (he : starEach (e :: es) X.env = (false, eval e X.env) :: starEach es X.env := by rfl) (hpl : (backTo pos (starEach es X.env)).any (·.1) = false := by rfl) : DF X (.Call (.Name x p) (e :: es) [] pos) (gApp f gs) :=
  pe_imp (pe_callTy hc hg hm hv ha hn hdb he hpl) fun _ _ _ q => appF_q rfl q
/-- isinstance(e, T) -/
theorem de_isi {T : String} {y : Str} {p2 : Pos} {g : Md D} (hm : X.mg "isinstance" = none) (hgl : Gl X "isinstance") (hgy : Gl X y) (hmy : X.mg y = none) (hv : bootBuiltins y = some (.type T)) (ha : DE X e g) (hny : y ≠ "__name__" := by decide) (hdy : (y == ("__debug__" : Str)) = false := by decide)
    (he : starEach (e :: [.Name y p2]) X.env = (false, eval e X.env) :: starEach [.Name y p2] X.env := by rfl) (he2 : starEach ([.Name y p2]) X.env = (false, eval (.Name y p2) X.env) :: starEach [] X.env := by rfl) (hpl : (backTo pos (starEach [.Name y p2] X.env)).any (·.1) = false := by rfl) : DE X (.Call (.Name "isinstance" p) [e, .Name y p2] [] pos) (gApp (isiF T) (gCons g gNil)) :=
  pe_imp (pe_callB call_isi hgl hm (by decide +kernel) (pa_cons ha (pa_cons (pe_bltn (v := .ty T) hgy hmy hv rfl hny hdy) pa_nil he2) he) (by decide) (by decide) he hpl) fun σ H Q q => by
    obtain ⟨F, ρ, d, ρ', s, eg, k⟩ := q
    obtain ⟨⟨ds, ρ1⟩, e1, eg1⟩ := bind_some eg
    obtain ⟨z, e3, eg2⟩ := bind_some eg1
    cases eg2
    obtain ⟨⟨d1, ρ2⟩, e4, eg4⟩ := bind_some e1
    cases eg4
    exact ⟨F, ρ, d1, ρ2, s, e4, fun v F1 H1 p1 s1 r1 => isi_cut (vs := [v]) ⟨F1, [d1], _, s1.sub, .cons r1 .nil, e3, fun w F3 H3 gr rw' => k w F3 H3 (p1.trans (gr.stp σ ρ2)) (s1.grow gr) rw'⟩⟩
def spV (K : Kx) (n : Nat) (f : List D → Option D) : Sp := fun vs H Q _ => vs.length = n ∧ rPn K f vs H Q
/-- .. whose first argument is a list that is changed -/
def spIO (K : Kx) (n : Nat) (f : D → List D → Option (D × D)) : Sp := fun vs H Q _ => vs.length = n ∧ ∃ (F : Hp) (a : Addr) (ws : List V) (d : D) (ds : List D) (r d' : D), vs = .ref a :: ws ∧ Same F H ∧ OwnAt K F H a d ∧ RpAll K F ws ds ∧ f d ds = some (r, d') ∧
  ∀ v F' H', Same F F' → Same F' H' → (∀ b o, H b = some o → b ≠ a → H' b = some o ∧ F' b = F b) → OwnAt K F' H' a d' → Rp K F' v r → Q v H'
theorem de_call {k n : Nat} {f : Addr} {fd : FuncData} {ps : List Str} {g : List D → Option D} {gs : Md (List D)} (G : FnOk X.prog X.w X.K X.mg X.base CX0 k f fd ps (spV (cxK X) n g)) (hr : Room k X.A) (hg : Gl X x) (hm : X.mg x = some (.ref f)) (hk : PySem.W.keepIn X.K (.ref f) = true) (hb : Binds X.K fd ps []) (hn : (e :: es).length = n) (ha : DA X (e :: es) gs) (hlen : ∀ ρ ds ρ', gs ρ = some (ds, ρ') → ds.length = n)
    (hdb : (x == ("__debug__" : Str)) = false := by decide) (he : starEach (e :: es) X.env = (false, eval e X.env) :: starEach es X.env := by rfl) (hpl : (backTo pos (starEach es X.env)).any (·.1) = false := by rfl) : DE X (.Call (.Name x p) (e :: es) [] pos) (gApp g gs) :=
  pe_imp (pe_call G hr hg hm hk hb .nil pass0 ha hdb he hpl) fun σ H Q q => by
    obtain ⟨F, ρ, d, ρ', s, eg, k⟩ := q
    obtain ⟨⟨ds, ρ1⟩, e1, eg1⟩ := bind_some eg
    obtain ⟨z, e3, eg2⟩ := bind_some eg1
    cases eg2
    exact ⟨F, ρ, ds, _, s, e1, fun vs F1 H1 p1 s1 r1 => ⟨by rw [List.append_nil, da_len r1]; exact hlen _ _ _ e1, F1, ds, _, s1.sub, by rw [List.append_nil]; exact r1, e3, fun w F3 H3 gr rw' => k w F3 H3 (p1.trans (gr.stp σ _)) (s1.grow gr) rw'⟩⟩
/-- .. that hands back a new list of the caller's own -/
def spF (K : Kx) (n : Nat) (f : List D → Option D) : Sp := fun vs H Q _ => vs.length = n ∧ rFn K f vs H Q
theorem df_call {k n : Nat} {f : Addr} {fd : FuncData} {ps : List Str} {g : List D → Option D} {gs : Md (List D)} (G : FnOk X.prog X.w X.K X.mg X.base CX0 k f fd ps (spF (cxK X) n g)) (hr : Room k X.A) (hg : Gl X x) (hm : X.mg x = some (.ref f)) (hk : PySem.W.keepIn X.K (.ref f) = true) (hb : Binds X.K fd ps []) (hn : (e :: es).length = n) (ha : DA X (e :: es) gs) (hlen : ∀ ρ ds ρ', gs ρ = some (ds, ρ') → ds.length = n)
    (hdb : (x == ("__debug__" : Str)) = false := by decide) (he : starEach (e :: es) X.env = (false, eval e X.env) :: starEach es X.env := by rfl) (hpl : (backTo pos (starEach es X.env)).any (·.1) = false := by rfl) : DF X (.Call (.Name x p) (e :: es) [] pos) (gApp g gs) :=
  pe_imp (pe_call G hr hg hm hk hb .nil pass0 ha hdb he hpl) fun σ H Q q => by
    obtain ⟨F, ρ, d, ρ', s, eg, k⟩ := q
    obtain ⟨⟨ds, ρ1⟩, e1, eg1⟩ := bind_some eg
    obtain ⟨z, e3, eg2⟩ := bind_some eg1
    cases eg2
    exact ⟨F, ρ, ds, _, s, e1, fun vs F1 H1 p1 s1 r1 => ⟨by rw [List.append_nil, da_len r1]; exact hlen _ _ _ e1, F1, ds, _, s1.sub, by rw [List.append_nil]; exact r1, e3, fun a F3 H3 gr o hn => k a F3 H3 (p1.trans (gr.stp σ _)) (s1.grow gr) o (not_owns s1 hn) (p1.none hn)⟩⟩
theorem len_nil : ∀ ρ ds ρ', gNil ρ = some (ds, ρ') → ds.length = 0 := fun ρ ds ρ' h => by
  cases h
  rfl
theorem len_cons {g : Md D} {gs : Md (List D)} {n : Nat} (h : ∀ ρ ds ρ', gs ρ = some (ds, ρ') → ds.length = n) : ∀ ρ ds ρ', gCons g gs ρ = some (ds, ρ') → ds.length = n + 1 := fun ρ ds ρ' e => by
  obtain ⟨⟨x, ρ1⟩, e1, eg1⟩ := bind_some e
  obtain ⟨⟨y, ρ2⟩, e2, eg2⟩ := bind_some eg1
  cases eg2
  exact congrArg (· + 1) (h _ _ _ e2)
def setC (i : Nat) (c : Cell) (ρ : Env) : Option Env := match ρ[i]? with
  | some (some (.own true _)) => none
  | some _ => some (ρ.set i (some c))
  | none => none
def gCallIO (i : Nat) (f : D → List D → Option (D × D)) (gs : Md (List D)) : Md D := fun ρ => match ρ[i]? with
  | some (some (.own _ _)) => (gs ρ).bind fun p => match p.2[i]? with
    | some (some (.own b d)) => (f d p.1).bind fun r => some (r.1, p.2.set i (some (.own b r.2)))
    | _ => none
  | _ => none
theorem st_own_set {K : Kx} {F H F' H' : Hp} {σ : L2.St} {ρ : Env} {i : Nat} {b : Bool} {d d' : D} {a : Addr} (s : St K F H σ ρ) (e : ρ[i]? = some (some (.own b d))) (ea : σ[i]? = some (some (.ref a))) (sf : Same F F') (sh : Same F' H')
    (kp : ∀ c o, H c = some o → c ≠ a → H' c = some o ∧ F' c = F c) (o : OwnAt K F' H' a d') : St K F' H' σ (ρ.set i (some (.own b d'))) ∧ Stp F σ ρ H F' σ (ρ.set i (some (.own b d'))) H' := by
  have sub : ∀ c, Owns σ (ρ.set i (some (.own b d'))) c → Owns σ ρ c := fun c h => by
    obtain ⟨j, f, dj, h1, h2⟩ := h
    by_cases z : j = i
    · subst z
      exact ⟨j, b, d, e, h2⟩
    · rw [get_set_ne z] at h1
      exact ⟨j, f, dj, h1, h2⟩
  refine ⟨⟨sh, by rw [List.length_set]; exact s.len, fun j c hj => ?_, fun j l f g dj dl x h1 h2 h3 h4 => ?_⟩, ⟨sf, fun c u hc nc => kp c u hc fun z => nc (by subst z; exact ⟨i, b, d, e, ea⟩), fun c h => .inl (sub c h), fun j dj hj => ⟨rfl, ?_⟩, fun c u hc => ?_⟩⟩
  · by_cases z : j = i
    · subst z
      rw [get_set_self e] at hj
      cases hj
      exact ⟨a, ea, o⟩
    · rw [get_set_ne z] at hj
      have q := s.cell j c hj
      cases c with
      | val dj =>
        obtain ⟨v, e2, r2⟩ := q
        exact ⟨v, e2, dp_mono sf _ _ r2⟩
      | own f dj =>
        obtain ⟨c, e2, ow⟩ := q
        have ne : c ≠ a := fun y => z (by subst y; exact s.dist j i f b dj d _ hj e e2 ea)
        obtain ⟨u, e4⟩ := ow.there
        obtain ⟨g1, g2⟩ := kp c _ e4 ne
        exact ⟨c, e2, g2.trans ow.1, ow.2.mono sf fun o e5 => (kp c o e5 ne).1⟩
  · have h1' : ∃ f dj, ρ[j]? = some (some (.own f dj)) := by
      by_cases z : j = i
      · subst z; exact ⟨b, d, e⟩
      · rw [get_set_ne z] at h1; exact ⟨f, dj, h1⟩
    have h2' : ∃ f dj, ρ[l]? = some (some (.own f dj)) := by
      by_cases z : l = i
      · subst z; exact ⟨b, d, e⟩
      · rw [get_set_ne z] at h2; exact ⟨g, dl, h2⟩
    obtain ⟨f1, d1, g1⟩ := h1'
    obtain ⟨f2, d2, g2⟩ := h2'
    exact s.dist j l f1 f2 d1 d2 x g1 g2 h3 h4
  · by_cases z : j = i
    · subst z
      rw [e] at hj
      cases hj
      exact ⟨d', get_set_self e⟩
    · rw [get_set_ne z]
      exact ⟨dj, hj⟩
  · by_cases z : c = a
    · subst z
      exact o.there
    · exact ⟨u, (kp c u hc z).1⟩
theorem de_callIO (i : Nat) {k n : Nat} {y : Str} {f : Addr} {fd : FuncData} {ps : List Str} {py : Pos} {g : D → List D → Option (D × D)} {gs : Md (List D)} (G : FnOk X.prog X.w X.K X.mg X.base CX0 k f fd ps (spIO (cxK X) (n + 1) g)) (hr : Room k X.A) (hg : Gl X x) (hm : X.mg x = some (.ref f)) (hk : PySem.W.keepIn X.K (.ref f) = true) (hb : Binds X.K fd ps [])
    (hN : X.N[i]? = some y) (hv : Vis X.env.scope y) (ha : DA X es gs) (hlen : ∀ ρ ds ρ', gs ρ = some (ds, ρ') → ds.length = n)
    (hdb : (x == ("__debug__" : Str)) = false := by decide) (hdy : (y == ("__debug__" : Str)) = false := by decide) (hcd : (y == ("__classdict__" : Str)) = false := by decide) (he : starEach (.Name y py :: es) X.env = (false, eval (.Name y py) X.env) :: starEach es X.env := by rfl) (hpl : (backTo pos (starEach es X.env)).any (·.1) = false := by rfl) : DE X (.Call (.Name x p) (.Name y py :: es) [] pos) (gCallIO i g gs) :=
  pe_imp (pe_call G hr hg hm hk hb .nil pass0 (pa_cons (pe_var hN hv hdy hcd) ha he) hdb he hpl) fun σ H Q q => by
    obtain ⟨F, ρ, d, ρ', s, eg, k⟩ := q
    unfold gCallIO at eg
    split at eg
    · rename_i b0 d0 h0
      obtain ⟨a, ea, _, _⟩ := st_owned s h0
      obtain ⟨⟨ds, ρ1⟩, e1, eg1⟩ := bind_some eg
      simp only at eg1
      split at eg1
      · rename_i b1 d1 h1
        obtain ⟨⟨r, d'⟩, e2, eg2⟩ := bind_some eg1
        cases eg2
        refine ⟨.ref a, ea, F, ρ, ds, ρ1, s, e1, fun vs F1 H1 p1 s1 r1 => ⟨?_, F1, a, vs, d1, ds, r, d', by simp, s1.sub, ?_, r1, e2, fun v F2 H2 sf sh kp o rv => ?_⟩⟩
        · simp [da_len r1, hlen _ _ _ e1]
        · obtain ⟨a1, ea1, o1, _⟩ := st_owned s1 h1
          rw [ea] at ea1
          cases ea1
          exact o1
        · obtain ⟨s2, p2⟩ := st_own_set s1 h1 ea sf sh kp o
          exact k v F2 H2 (p1.trans p2) s2 rv
      · cases eg1
    · cases eg
theorem fl_base {K : Kx} {E : Ends} {H H1 F' : Hp} {σ' : L2.St} {H' : Hp} {f : Fl} (h : FlOk K E H F' σ' H' f) (p : ∀ a, H1 a = none → H a = none) : FlOk K E H1 F' σ' H' f := by
  cases f with
  | rof d => exact fun a o n => h a o (p a n)
  | nx => exact h
  | ret d => exact h
  | brk => exact h
  | cnt => exact h
def sNext : Sd := fun ρ => some (.nx, ρ)
def sSeq (s t : Sd) : Sd := fun ρ => (s ρ).bind fun p => match p.1 with
  | .nx => t p.2
  | f => some (f, p.2)
def sIf (g : Md Bool) (s t : Sd) : Sd := fun ρ => (g ρ).bind fun p => if p.1 = true then s p.2 else t p.2
def sRet (g : Md D) : Sd := fun ρ => (g ρ).bind fun p => some (.ret p.1, p.2)
def sDrop (g : Md D) : Sd := fun ρ => (g ρ).bind fun p => some (.nx, p.2)
def sSet (i : Nat) (g : Md D) : Sd := fun ρ => (g ρ).bind fun p => (setC i (.val p.1) p.2).bind fun r => some (.nx, r)
def sOwn (i : Nat) (g : Md D) : Sd := fun ρ => (g ρ).bind fun p => (setC i (.own false p.1) p.2).bind fun r => some (.nx, r)
def sBrk : Sd := fun ρ => some (.brk, ρ)
def sCnt : Sd := fun ρ => some (.cnt, ρ)
variable {st : Stmt} {sts : List Stmt}
theorem dss_nil : DSs X [] sNext := pss_imp pss_nil fun E σ H q => by
  obtain ⟨F, ρ, f, ρ', s, eg, k⟩ := q
  cases eg
  exact k σ F H Stp.refl s
theorem dss_cons {g h : Sd} (h1 : DS X st g) (h2 : DSs X sts h) : DSs X (st :: sts) (sSeq g h) := pss_imp (pss_cons h1 h2) fun E σ H q => by
  obtain ⟨F, ρ, f, ρ', s, eg, k⟩ := q
  obtain ⟨⟨f1, ρ1⟩, e1, eg1⟩ := bind_some eg
  refine ⟨F, ρ, f1, ρ1, s, e1, fun σ1 F1 H1 p1 s1 => ?_⟩
  cases f1 with
  | nx => exact ⟨F1, ρ1, f, ρ', s1, eg1, fun σ2 F2 H2 p2 s2 => fl_base (k σ2 F2 H2 (p1.trans p2) s2) fun _ => p1.none⟩
  | ret d =>
    cases eg1
    exact k σ1 F1 H1 p1 s1
  | rof d =>
    cases eg1
    exact k σ1 F1 H1 p1 s1
  | brk =>
    cases eg1
    exact k σ1 F1 H1 p1 s1
  | cnt =>
    cases eg1
    exact k σ1 F1 H1 p1 s1
theorem dss_one {g : Sd} (h1 : DS X st g) : DSs X [st] g := pss_one h1
theorem ds_cont : DS X (.Continue pos) sCnt := ps_imp ps_continue fun E σ H q => by
  obtain ⟨F, ρ, f, ρ', s, eg, k⟩ := q
  cases eg
  exact k σ F H Stp.refl s
theorem ds_if {g : Md Bool} {s1 s2 : Sd} {as bs : List Stmt} (hc : DT X c g) (ha : DSs X as s1) (hb : DSs X bs s2) : DS X (.If c as bs pos) (sIf g s1 s2) := ps_imp (ps_if hc ha hb) fun E σ H q => by
  obtain ⟨F, ρ, f, ρ', s, eg, k⟩ := q
  obtain ⟨⟨b, ρ1⟩, e1, eg1⟩ := bind_some eg
  refine ⟨F, ρ, b, ρ1, s, e1, fun F1 H1 p1 s1 => ?_⟩
  cases b with
  | true => exact ⟨F1, ρ1, f, ρ', s1, eg1, fun σ2 F2 H2 p2 s2 => fl_base (k σ2 F2 H2 (p1.trans p2) s2) fun _ => p1.none⟩
  | false => exact ⟨F1, ρ1, f, ρ', s1, eg1, fun σ2 F2 H2 p2 s2 => fl_base (k σ2 F2 H2 (p1.trans p2) s2) fun _ => p1.none⟩
theorem ds_ret {g : Md D} (h : DE X e g) : DS X (.Return (some e) pos) (sRet g) := ps_imp (ps_ret h) fun E σ H q => by
  obtain ⟨F, ρ, f, ρ', s, eg, k⟩ := q
  obtain ⟨⟨d, ρ1⟩, e1, eg1⟩ := bind_some eg
  cases eg1
  exact ⟨F, ρ, d, _, s, e1, fun v F1 H1 p1 s1 r1 => k σ F1 H1 p1 s1 v r1⟩
def sRof (g : Md D) : Sd := fun ρ => (g ρ).bind fun p => some (.rof p.1, p.2)
theorem ds_rof {g : Md D} (h : DF X e g) : DS X (.Return (some e) pos) (sRof g) := ps_imp (ps_ret h) fun E σ H q => by
  obtain ⟨F, ρ, f, ρ', s, eg, k⟩ := q
  obtain ⟨⟨d, ρ1⟩, e1, eg1⟩ := bind_some eg
  cases eg1
  exact ⟨F, ρ, d, _, s, e1, fun a F1 H1 p1 s1 o no hn => k σ F1 H1 p1 s1 a o hn⟩
theorem setC_some {i : Nat} {c : Cell} {ρ ρ' : Env} (h : setC i c ρ = some ρ') : ρ' = ρ.set i (some c) ∧ (∀ d, ρ[i]? ≠ some (some (.own true d))) ∧ ∃ o, ρ[i]? = some o := by
  unfold setC at h
  split at h
  · cases h
  · rename_i o q n
    refine ⟨(Option.some.inj h).symm, fun d z => ?_, _, n⟩
    rw [n] at z
    cases z
    exact q d rfl
  · cases h
theorem st_set {K : Kx} {F H : Hp} {σ : L2.St} {ρ ρ' : Env} {i : Nat} {c : Cell} {v : V} (s : St K F H σ ρ) (h : setC i c ρ = some ρ') (hc : CellOk K F H (some (some v)) c) (hn : ∀ f d a, c = .own f d → v = .ref a → f = false ∧ ¬ Owns σ ρ a) : St K F H (σ.set i (some v)) ρ' := by
  obtain ⟨rfl, nf, o, ho⟩ := setC_some h
  have hi : i < σ.length := by
    rw [← s.len]
    exact (List.getElem?_eq_some_iff.mp ho).1
  have hσ : (σ.set i (some v))[i]? = some (some v) := List.getElem?_set_self hi
  refine ⟨s.sub, by rw [List.length_set, List.length_set]; exact s.len, fun j cj hj => ?_, fun j l f g dj dl b h1 h2 h3 h4 => ?_⟩
  · by_cases z : j = i
    · subst z
      rw [get_set_self ho] at hj
      cases hj
      rw [hσ]
      exact hc
    · rw [get_set_ne z] at hj ⊢
      exact s.cell j cj hj
  · by_cases z1 : j = i
    · subst z1
      rw [get_set_self ho] at h1
      rw [hσ] at h3
      by_cases z2 : l = j
      · exact z2.symm
      · rw [get_set_ne z2] at h2 h4
        cases h1
        cases h3
        exact absurd ⟨l, g, dl, h2, h4⟩ (hn f dj b rfl rfl).2
    · rw [get_set_ne z1] at h1 h3
      by_cases z2 : l = i
      · subst z2
        rw [get_set_self ho] at h2
        rw [hσ] at h4
        cases h2
        cases h4
        exact absurd ⟨j, f, dj, h1, h3⟩ (hn g dl b rfl rfl).2
      · rw [get_set_ne z2] at h2 h4
        exact s.dist j l f g dj dl b h1 h2 h3 h4
theorem stp_set {F H : Hp} {σ : L2.St} {ρ ρ' : Env} {i : Nat} {c : Cell} {v : V} {H0 : Hp} {F0 : Hp} {σ0 : L2.St} {ρ0 : Env} (p : Stp F0 σ0 ρ0 H0 F σ ρ H) (h : setC i c ρ = some ρ') (hn : ∀ f d a, c = .own f d → v = .ref a → H0 a = none) : Stp F0 σ0 ρ0 H0 F (σ.set i (some v)) ρ' H := by
  obtain ⟨rfl, nf, o, ho⟩ := setC_some h
  refine ⟨p.ff, p.keep, fun b hb => ?_, fun j d hj => ?_, p.dom⟩
  · obtain ⟨j, f, dj, h1, h2⟩ := hb
    by_cases z : j = i
    · subst z
      rw [get_set_self ho] at h1
      cases h1
      have h3 : v = .ref b := by
        by_cases hl : j < σ.length
        · rw [List.getElem?_set_self hl] at h2
          exact Option.some.inj (Option.some.inj h2)
        · rw [List.getElem?_eq_none (by simpa using hl)] at h2
          cases h2
      exact .inr (hn f dj b rfl h3)
    · rw [get_set_ne z] at h1 h2
      exact p.fresh b ⟨j, f, dj, h1, h2⟩
  · obtain ⟨e1, d', e2⟩ := p.fix j d hj
    have z : j ≠ i := fun z => by
      subst z
      exact nf d' e2
    rw [get_set_ne z, get_set_ne z]
    exact ⟨e1, d', e2⟩
theorem ds_set {i : Nat} {pos' : Pos} {g : Md D} (hN : X.N.Nodup) (hi : X.N[i]? = some x) (hx : Loc X.env.scope x) (he : DE X e g) (hs : swapsWith e (some (.Name x pos')) pos.line X.env = pure false := by rfl) (hf : X.fn x = true ∨ X.env.scope.names.lookup x = some .local := by first | exact .inl rfl | exact .inr rfl | assumption) : DS X (.Assign [.Name x pos'] e pos) (sSet i g) :=
  ps_imp (ps_set hN hi hx he hs hf) fun E σ H q => by
    obtain ⟨F, ρ, f, ρ', s, eg, k⟩ := q
    obtain ⟨⟨d, ρ1⟩, e1, eg1⟩ := bind_some eg
    obtain ⟨r, e2, eg2⟩ := bind_some eg1
    cases eg2
    exact ⟨F, ρ, d, ρ1, s, e1, fun v F1 H1 p1 s1 r1 => k _ F1 H1 (stp_set p1 e2 fun _ _ _ z => nomatch z) (st_set s1 e2 ⟨v, rfl, r1⟩ fun _ _ _ z => nomatch z)⟩
theorem ds_own {i : Nat} {pos' : Pos} {g : Md D} (hN : X.N.Nodup) (hi : X.N[i]? = some x) (hx : Loc X.env.scope x) (he : DF X e g) (hs : swapsWith e (some (.Name x pos')) pos.line X.env = pure false := by rfl) (hf : X.fn x = true ∨ X.env.scope.names.lookup x = some .local := by first | exact .inl rfl | exact .inr rfl | assumption) : DS X (.Assign [.Name x pos'] e pos) (sOwn i g) :=
  ps_imp (ps_set hN hi hx he hs hf) fun E σ H q => by
    obtain ⟨F, ρ, f, ρ', s, eg, k⟩ := q
    obtain ⟨⟨d, ρ1⟩, e1, eg1⟩ := bind_some eg
    obtain ⟨r, e2, eg2⟩ := bind_some eg1
    cases eg2
    refine ⟨F, ρ, d, ρ1, s, e1, fun a F1 H1 p1 s1 o no hn => k _ F1 H1 (stp_set p1 e2 fun _ _ b _ z => ?_) (st_set s1 e2 ⟨a, rfl, o.1⟩ fun f _ b z1 z => ?_)⟩
    · cases z
      exact hn
    · cases z
      cases z1
      exact ⟨rfl, no⟩
def sApp (i : Nat) (g : Md D) : Sd := fun ρ => match ρ[i]? with
  | some (some (.own _ (.list _))) => (g ρ).bind fun p => match p.2[i]? with
    | some (some (.own b (.list ds))) => if ds.length < 16777216 then some (.nx, p.2.set i (some (.own b (.list (ds ++ [p.1]))))) else none
    | _ => none
  | _ => none
theorem own_lst {K : Kx} {F H : Hp} {a : Addr} {ds : List D} (h : OwnAt K F H a (.list ds)) : F a = none ∧ ∃ xs, H a = some (.lst xs) ∧ RpAll K F xs ds := by
  obtain ⟨f, h⟩ := h
  rcases h with ⟨xs, ds', e, hh, r⟩ | ⟨xs, es, e, _⟩ | ⟨xs, es, e, _⟩
  · cases e
    exact ⟨f, xs, hh, r⟩
  · cases e
  · cases e
theorem own_write {K : Kx} {F H : Hp} {a : Addr} {xs : List V} {ds : List D} {o : HO} (s : Same F H) (hF : F a = none) (hH : H a = some o) (r : RpAll K F xs ds) : OwnAt K F (upd H a (.lst xs)) a (.list ds) ∧ Same F (upd H a (.lst xs)) ∧ ∀ c u, H c = some u → c ≠ a → upd H a (.lst xs) c = some u ∧ F c = F c :=
  ⟨⟨hF, .inl ⟨xs, ds, rfl, upd_same, r⟩⟩, fun c u hc => by rw [upd_ne (ne_of_none hc hF)]; exact s c u hc, fun c u hc n => ⟨by rw [upd_ne n]; exact hc, rfl⟩⟩
theorem ds_app (i : Nat) {ce : Expr} {g : Md D} (he : PE X ce (tBM (cxK X) "list" rAppend (tVar i) (tCons (tD (cxK X) g) tNil))) (hs : swapsWith ce none pos.line X.env = pure false := by rfl) : DS X (.Expr ce pos) (sApp i g) :=
  ps_imp (ps_expr he hs) fun E σ H q => by
    obtain ⟨F, ρ, f, ρ', s, eg, k⟩ := q
    unfold sApp at eg
    split at eg
    · rename_i b0 d0 h0
      obtain ⟨a, ea, o0, _⟩ := st_owned s h0
      obtain ⟨_, xs0, hx0, _⟩ := own_lst o0
      obtain ⟨⟨d, ρ1⟩, e1, eg1⟩ := bind_some eg
      simp only at eg1
      split at eg1
      · rename_i b1 ds h1
        split at eg1
        · rename_i hl
          cases eg1
          refine ⟨.ref a, ea, .inl ⟨rfl, xs0, SqL.of hx0⟩, F, ρ, d, ρ1, s, e1, fun v F1 H1 p1 s1 r1 => ?_⟩
          obtain ⟨a1, ea1, o1, _⟩ := st_owned s1 h1
          rw [ea] at ea1
          cases ea1
          obtain ⟨f1, xs, hx, rx⟩ := own_lst o1
          refine ⟨a, xs, v, rfl, rfl, hx, by rw [line_eq, da_len rx]; exact hl, ?_⟩
          obtain ⟨o2, sh, kp⟩ := own_write s1.sub f1 hx (da_app rx (.cons r1 .nil))
          obtain ⟨s2, p2⟩ := st_own_set s1 h1 ea (Same.refl _) sh kp o2
          exact k σ F1 _ (p1.trans p2) s2
        · cases eg1
      · cases eg1
    · cases eg
def ixS (n : Nat) (i : Int) : Option Nat := if 0 ≤ i then (if i < n then some i.toNat else none) else if -(n : Int) ≤ i then some (i + n).toNat else none
def sSetIx (i : Nat) (gv gi : Md D) : Sd := fun ρ => (gv ρ).bind fun p => match p.2[i]? with
  | some (some (.own _ _)) => (gi p.2).bind fun q => (iOf q.1).bind fun z => match q.2[i]? with
    | some (some (.own b (.list ds))) => (ixS ds.length z).bind fun j => some (.nx, q.2.set i (some (.own b (.list (ds.set j p.1)))))
    | _ => none
  | _ => none
theorem ds_setIx (i : Nat) {y : Str} {py tpos : Pos} {gv gi : Md D} (hN : X.N[i]? = some y) (hv : Vis X.env.scope y) (he : DE X e gv) (hi : DE X a gi) (hdy : (y == ("__debug__" : Str)) = false := by decide) (hcd : (y == ("__classdict__" : Str)) = false := by decide)
    (ha : ∀ v, assign (.Subscript (.Name y py) a tpos) X.env v = (do let ov ← holding [v] (eval (.Name y py) X.env); let iv ← holding [v, ov] (eval a X.env); standAt tpos; holding [v, ov, iv] (setItem ov iv v); release [v, ov, iv] []) := by intro _; rfl)
    (hs : swapsWithSole [.Subscript (.Name y py) a tpos] e pos.line X.env = pure false := by rfl) (hw : swappedStores [.Subscript (.Name y py) a tpos] e X.env = pure none := by rfl) : DS X (.Assign [.Subscript (.Name y py) a tpos] e pos) (sSetIx i gv gi) :=
  ps_imp (ps_asg he (pg_sub (pe_var hN hv hdy hcd) hi set_list ha) hs hw) fun E σ H q => by
    obtain ⟨F, ρ, f, ρ', s, eg, k⟩ := q
    obtain ⟨⟨d, ρ1⟩, e1, eg1⟩ := bind_some eg
    simp only at eg1
    split at eg1
    · rename_i b0 d0 h0
      obtain ⟨⟨di, ρ2⟩, e2, eg2⟩ := bind_some eg1
      obtain ⟨z, e3, eg3⟩ := bind_some eg2
      simp only at eg3
      split at eg3
      · rename_i b1 ds h1
        obtain ⟨j, e4, eg4⟩ := bind_some eg3
        cases eg4
        have e5 := iOf_some e3
        simp only at e5
        subst e5
        refine ⟨F, ρ, d, ρ1, s, e1, fun v F1 H1 p1 s1 r1 => ?_⟩
        obtain ⟨a0, ea, o0, _⟩ := st_owned s1 h0
        refine ⟨.ref a0, ea, F1, ρ1, _, ρ2, s1, e2, fun u F2 H2 p2 s2 r2 => ?_⟩
        cases r2
        obtain ⟨a1, ea1, o1, _⟩ := st_owned s2 h1
        rw [ea] at ea1
        cases ea1
        obtain ⟨f1, xs, hx, rx⟩ := own_lst o1
        refine ⟨a0, xs, z, j, rfl, rfl, hx, by rw [da_len rx]; exact e4, ?_⟩
        obtain ⟨o2, sh, kp⟩ := own_write s2.sub f1 hx (da_set (dp_mono p2.ff _ _ r1) j rx)
        obtain ⟨s3, p3⟩ := st_own_set s2 h1 ea (Same.refl _) sh kp o2
        exact k σ F2 _ (p1.trans (p2.trans p3)) s3
      · cases eg3
    · cases eg1
end
end Dn
set_option maxHeartbeats 2000000
namespace Dn
open PySem PySem.Spec PyProof.Rows L2
section
variable {X : Cx} {e a b c tg iter : Expr} {es : List Expr} {pos p : Pos} {x : Str}
def gTN (i : Nat) : D → Env → Option Env := fun d ρ => setC i (.val d) ρ
def tDGs (K : Kx) (is : List Nat) (g : List D → Env → Option Env) : TGs := fun vs σ H Q => ∃ (F : Hp) (ρ : Env) (ds : List D) (ρ' : Env), St K F H σ ρ ∧ RpAll K F vs ds ∧ g ds ρ = some ρ' ∧
  ∀ σ' F' H', Stp F σ ρ H F' σ' ρ' H' → St K F' H' σ' ρ' → (σ'.length = σ.length ∧ ∀ j, j ∉ is → σ'[j]? = σ[j]?) → Q σ' H'
abbrev DGs (X : Cx) (es : List Expr) (is : List Nat) (g : List D → Env → Option Env) : Prop := PGs X es (tDGs (cxK X) is g)
theorem pgs_imp {X : Cx} {e : List Expr} {t t' : TGs} (h : PGs X e t) (i : ∀ v σ H Q, t' v σ H Q → t v σ H Q) : PGs X e t' := ⟨fun pins s σ H v u Q I r q => h.run pins s σ H v u Q I r (i v σ H Q q)⟩
theorem dg_name {i : Nat} (hN : X.N.Nodup) (hi : X.N[i]? = some x) (hx : Loc X.env.scope x) (hf : X.fn x = true ∨ X.env.scope.names.lookup x = some .local := by first | exact .inl rfl | exact .inr rfl | assumption) : DG X (.Name x pos) [i] (gTN i) :=
  pg_imp (pg_name hN hi hx hf) fun v σ H Q q => by
    obtain ⟨F, ρ, d, ρ', s, hd, eg, k⟩ := q
    exact k _ F H (stp_set Stp.refl eg fun _ _ _ z => nomatch z) (st_set s eg ⟨v, rfl, hd⟩ fun _ _ _ z => nomatch z) ⟨List.length_set, fun j hj => get_set_ne (by simpa using hj)⟩
def gTNil : List D → Env → Option Env
  | [], ρ => some ρ
  | _ :: _, _ => none
def gTCons (g : D → Env → Option Env) (gs : List D → Env → Option Env) : List D → Env → Option Env
  | d :: ds, ρ => (g d ρ).bind fun ρ1 => gs ds ρ1
  | [], _ => none
def gTTup (n : Nat) (gs : List D → Env → Option Env) : D → Env → Option Env
  | .tuple ds, ρ => if ds.length = n then gs ds ρ else none
  | _, _ => none
theorem dgs_nil : DGs X [] [] gTNil := pgs_imp pgs_nil fun vs σ H Q q => by
  obtain ⟨F, ρ, ds, ρ', s, hd, eg, k⟩ := q
  cases hd with
  | nil =>
    cases eg
    exact ⟨rfl, k σ F H Stp.refl s ⟨rfl, fun _ _ => rfl⟩⟩
  | cons _ _ => cases eg
theorem dgs_cons {is js : List Nat} {g : D → Env → Option Env} {gs : List D → Env → Option Env} (h1 : DG X e is g) (h2 : DGs X es js gs) (hs : (assignEach (e :: es) X.env).map (·.2) = assign e X.env :: (assignEach es X.env).map (·.2) := by rfl) : DGs X (e :: es) (is ++ js) (gTCons g gs) :=
  pgs_imp (pgs_cons h1 h2 hs) fun vs σ H Q q => by
    obtain ⟨F, ρ, ds, ρ', s, hd, eg, k⟩ := q
    cases hd with
    | nil => cases eg
    | cons r rs =>
      obtain ⟨ρ1, e1, eg1⟩ := bind_some eg
      exact ⟨_, _, rfl, F, ρ, _, ρ1, s, r, e1, fun σ1 F1 H1 p1 s1 w1 => ⟨F1, ρ1, _, ρ', s1, dpAll_mono p1.ff _ _ rs, eg1, fun σ2 F2 H2 p2 s2 w2 => k σ2 F2 H2 (p1.trans p2) s2 ⟨w2.1.trans w1.1, fun j hj => by
        rw [List.mem_append, not_or] at hj
        exact (w2.2 j hj.2).trans (w1.2 j hj.1)⟩⟩⟩
theorem dg_tup {k : Nat} {is : List Nat} {gs : List D → Env → Option Env} {n : Nat} (hc : X.calm = true) (h : DGs X es is gs) (hn : (assignEach es X.env).length = n := by rfl) (hst : (assignEach es X.env).findIdx? (·.1) = none := by rfl) : DG X (.Tuple es k pos) is (gTTup n gs) :=
  pg_imp (pg_tup hc h hn hst) fun v σ H Q q => by
    obtain ⟨F, ρ, d, ρ', s, hd, eg, k⟩ := q
    cases d with
    | tuple ds =>
      have eg' : (if ds.length = n then gs ds ρ else none) = some ρ' := eg
      split at eg'
      · rename_i hl
        cases hd with
        | @tup a vs _ h1 d1 => exact ⟨a, vs, rfl, seqT_same s.sub h1, by rw [da_len d1]; exact hl, F, ρ, ds, ρ', s, d1, eg', k⟩
      · cases eg'
    | none => cases eg
    | bool _ => cases eg
    | int _ => cases eg
    | str _ => cases eg
    | list _ => cases eg
    | dict _ => cases eg
def sAsg (g : Md D) (t : D → Env → Option Env) : Sd := fun ρ => (g ρ).bind fun p => (t p.1 p.2).bind fun r => some (.nx, r)
def ItOk (K : Kx) (F : Hp) (J : It) (ds : List D) : Prop := ∀ F1 H, Same F F1 → Same F1 H → ∀ i, (∀ d, ds[i]? = some d → J.go i H ∧ ∀ x H', J.yld i H x H' → ∃ F', Grow F1 H F' H' ∧ Rp K F' x d) ∧ (ds.length ≤ i → J.stop i H)
def tDI (K : Kx) (g : Md (List D)) : TI := fun σ H R => ∃ (F : Hp) (ρ : Env) (ds : List D) (ρ' : Env), St K F H σ ρ ∧ g ρ = some (ds, ρ') ∧
  ∀ J F' H', Stp F σ ρ H F' σ ρ' H' → St K F' H' σ ρ' → ItOk K F' J ds → R J H'
abbrev DI (X : Cx) (tg e : Expr) (g : Md (List D)) : Prop := PI X tg e (tDI (cxK X) g)
theorem pi_imp {X : Cx} {tg e : Expr} {t t' : TI} (h : PI X tg e t) (i : ∀ σ H Q, t' σ H Q → t σ H Q) : PI X tg e t' := ⟨fun pins s σ H Q I q => h.run pins s σ H Q I (i σ H Q q)⟩
def signsL (x : Str) : List D := x.cps.toList.map fun c => .str ⟨#[c]⟩
def seqOf : D → Option (List D)
  | .list ds => some ds
  | .tuple ds => some ds
  | .str x => some (signsL x)
  | _ => none
def gSeq (g : Md D) : Md (List D) := fun ρ => (g ρ).bind fun p => (seqOf p.1).bind fun ds => some (ds, p.2)
def iSeq (K : Kx) (tl : TE) : TI := fun σ H R => tl σ H fun v H1 => (∃ x, v = .str x ∧ R (Its x) H1) ∨ ∃ a, v = .ref a ∧ (((∃ xs, SqL K H1 a xs) ∧ R (Itl K a) H1) ∨ ((∃ xs, SqT K H1 a xs) ∧ R (Itt K a) H1))
theorem pi_seq {l : Expr} {tl : TE} (hl : PE X l tl) : PI X tg l (iSeq (cxK X) tl) := by
  refine ⟨fun pins s σ H R I h => ?_⟩
  refine thn (hl.run pins s σ H _ I h) fun v s1 ⟨y, H1, I1, r1, q1⟩ => ?_
  rcases q1 with ⟨x, ex, q⟩ | ⟨a, e, q⟩
  · subst ex
    obtain ⟨t, rfl⟩ := r1
    cases ha : x.cps.all (· < 128)
    · exact wpAny_pyIter_wide ha (pi_one (tk := s1.toks) I1 _ (turn_str _ x t "str_iterator" (.inr rfl)) ⟨_, Heap.get?_push_size _ rfl, rfl, rfl⟩ q)
    · exact wpAny_pyIter_ascii ha (pi_one (tk := s1.toks) I1 _ (turn_str _ x t "str_ascii_iterator" (.inl rfl)) ⟨_, Heap.get?_push_size _ rfl, rfl, rfl⟩ q)
  subst e
  cases r1
  have fp : ∀ b ∈ [s1.heap.objs.size], FpOk X pins H1 b := fun b hb => by
    have e : b = s1.heap.objs.size := by simpa using hb
    subst e
    exact I1.fpOk (Nat.le_refl _) (I1.hok.fresh (Nat.le_refl _))
  rcases q with ⟨⟨xs, hq⟩, q⟩ | ⟨⟨xs, hq⟩, q⟩
  · obtain ⟨its, rv, p, hz⟩ := I1.list hq
    refine wpAny_pyIter_list p.isList ?_
    exact ⟨s1.heap.objs.size, [s1.heap.objs.size], _, _, H1, rfl, I1.kept (t' := s1.toks) fun b o e => Heap.get?_push_of_some _ e, turn_list a _, ⟨_, Heap.get?_push_size _ rfl, rfl, rfl⟩, fp, q⟩
  · obtain ⟨its, rv, p, hz⟩ := I1.tuple hq
    refine wpAny_pyIter_tuple (show s1.heap.IsTuple a its.toArray from p) ?_
    exact ⟨s1.heap.objs.size, [s1.heap.objs.size], _, _, H1, rfl, I1.kept (t' := s1.toks) fun b o e => Heap.get?_push_of_some _ e, turn_tuple a _, ⟨_, Heap.get?_push_size _ rfl, rfl, rfl⟩, fp, q⟩
theorem it_str {K : Kx} {F : Hp} {x : Str} : ItOk K F (Its x) (signsL x) := fun F1 H s1 s2 i => by
  have hl : (signsL x).length = x.cps.size := by simp [signsL]
  refine ⟨fun d e => ?_, fun h => by rw [hl] at h; exact h⟩
  have hi : i < x.cps.size := by
    have := (List.getElem?_eq_some_iff.mp e).1
    rw [hl] at this
    exact this
  refine ⟨hi, fun y H' hy => ?_⟩
  obtain ⟨rfl, c, hc, rfl⟩ := hy
  have e2 : d = .str ⟨#[c]⟩ := by
    unfold signsL at e
    rw [List.getElem?_map, Array.getElem?_toList, hc] at e
    exact (Option.some.inj e).symm
  subst e2
  exact ⟨F1, Grow.refl s2, .str _⟩
theorem it_list {K : Kx} {F : Hp} {a : Addr} {vs : List V} {ds : List D} (h : SqL K F a vs) (r : RpAll K F vs ds) : ItOk K F (Itl K a) ds := fun F1 H s1 s2 i => by
  have hH := (s1.trans s2).seq h
  refine ⟨fun d e => ?_, fun hl => ⟨vs, hH, by rw [da_len r]; exact hl⟩⟩
  obtain ⟨v, e1, rv⟩ := da_at r e
  refine ⟨⟨vs, v, hH, e1⟩, fun y H' hy => ?_⟩
  obtain ⟨rfl, hy⟩ := hy
  have e2 := (hy vs hH).symm.trans e1
  cases e2
  exact ⟨F1, Grow.refl s2, dp_mono s1 _ _ rv⟩
theorem it_tup {K : Kx} {F : Hp} {a : Addr} {vs : List V} {ds : List D} (h : SqT K F a vs) (r : RpAll K F vs ds) : ItOk K F (Itt K a) ds := fun F1 H s1 s2 i => by
  have hH := seqT_same (s1.trans s2) h
  refine ⟨fun d e => ?_, fun hl => ⟨vs, hH, by rw [da_len r]; exact hl⟩⟩
  obtain ⟨v, e1, rv⟩ := da_at r e
  refine ⟨⟨vs, v, hH, e1⟩, fun y H' hy => ?_⟩
  obtain ⟨rfl, hy⟩ := hy
  have e2 := (hy vs hH).symm.trans e1
  cases e2
  exact ⟨F1, Grow.refl s2, dp_mono s1 _ _ rv⟩
theorem di_seq {g : Md D} (h : DE X e g) : DI X tg e (gSeq g) := pi_imp (pi_seq h) fun σ H R q => by
  obtain ⟨F, ρ, ds, ρ', s, eg, k⟩ := q
  obtain ⟨⟨d, ρ1⟩, e1, eg1⟩ := bind_some eg
  obtain ⟨z, e2, eg2⟩ := bind_some eg1
  cases eg2
  refine ⟨F, ρ, d, _, s, e1, fun v F1 H1 p1 s1 r1 => ?_⟩
  cases d with
  | list xs =>
    cases e2
    cases r1 with
    | @lst a vs _ h1 d1 => exact .inr ⟨a, rfl, .inl ⟨⟨vs, s1.sub.seq h1⟩, k _ F1 H1 p1 s1 (it_list h1 d1)⟩⟩
  | tuple xs =>
    cases e2
    cases r1 with
    | @tup a vs _ h1 d1 => exact .inr ⟨a, rfl, .inr ⟨⟨vs, seqT_same s1.sub h1⟩, k _ F1 H1 p1 s1 (it_tup h1 d1)⟩⟩
  | none => cases e2
  | bool _ => cases e2
  | int _ => cases e2
  | str z =>
    cases e2
    cases r1
    exact .inl ⟨z, rfl, k _ F1 H1 p1 s1 it_str⟩
  | dict _ => cases e2
/-- range(a), range(a, b) -/
def rngL (lo : Int) (n : Nat) : List D := (List.range n).map fun i : Nat => .int (lo + i)
def small62 (j : Int) : Bool := decide (-(2 ^ 62) ≤ j ∧ j < 2 ^ 62)
def gRng1 (gs : Md (List D)) : Md (List D) := fun ρ => (gs ρ).bind fun p => match p.1 with
  | [.int j] => if small62 j = true then some (rngL 0 j.toNat, p.2) else none
  | _ => none
def gRng2 (gs : Md (List D)) : Md (List D) := fun ρ => (gs ρ).bind fun p => match p.1 with
  | [.int i, .int j] => if small62 i = true ∧ small62 j = true then some (rngL i (j - i).toNat, p.2) else none
  | _ => none
theorem it_rng {K : Kx} {F : Hp} {lo : Int} {n : Nat} : ItOk K F (Itr lo n) (rngL lo n) := fun F1 H s1 s2 i => by
  have hl : (rngL lo n).length = n := by simp [rngL]
  refine ⟨fun d e => ?_, fun h => by rw [hl] at h; exact h⟩
  have hi : i < n := by
    have := (List.getElem?_eq_some_iff.mp e).1
    rw [hl] at this
    exact this
  have ed : d = .int (lo + i) := by
    unfold rngL at e
    rw [List.getElem?_map, List.getElem?_range hi] at e
    exact (Option.some.inj e).symm
  subst ed
  refine ⟨hi, fun y H' hy => ?_⟩
  obtain ⟨rfl, rfl⟩ := hy
  exact ⟨F1, Grow.refl s2, .int _⟩
theorem di_rng1 {gs : Md (List D)} {p pos : Pos} (hg : Gl X "range") (hm : X.mg "range" = none) (ha : DA X [a] gs) (hs : starEach [a] X.env = [(false, eval a X.env)] := by rfl) : DI X tg (.Call (.Name "range" p) [a] [] pos) (gRng1 gs) :=
  pi_imp (pi_range1 hg hm ha hs) fun σ H R q => by
    obtain ⟨F, ρ, ds, ρ', s, eg, k⟩ := q
    obtain ⟨⟨d, ρ1⟩, e1, eg1⟩ := bind_some eg
    simp only at eg1
    split at eg1
    · rename_i j
      split at eg1
      · rename_i hj
        cases eg1
        have hj' := of_decide_eq_true hj
        refine ⟨F, ρ, _, _, s, e1, fun vs F1 H1 p1 s1 r1 => ?_⟩
        obtain ⟨v, rfl, rv⟩ := da1 r1
        cases rv
        exact ⟨j, rfl, hj'.1, hj'.2, k _ F1 H1 p1 s1 it_rng⟩
      · cases eg1
    · cases eg1
def forD (tg : D → Env → Option Env) (body : Sd) : List D → Sd
  | [] => fun ρ => some (.nx, ρ)
  | d :: ds => fun ρ => (tg d ρ).bind fun ρ1 => (body ρ1).bind fun p => match p.1 with
    | .nx => forD tg body ds p.2
    | .cnt => forD tg body ds p.2
    | .brk => some (.nx, p.2)
    | .ret r => some (.ret r, p.2)
    | .rof r => some (.rof r, p.2)
def sFor (gi : Md (List D)) (tg : D → Env → Option Env) (body : Sd) : Sd := fun ρ => (gi ρ).bind fun p => forD tg body p.1 p.2
theorem drop_cons {α : Type} {l : List α} {i : Nat} {d : α} (h : l[i]? = some d) : l.drop i = d :: l.drop (i + 1) := by
  obtain ⟨hl, e⟩ := List.getElem?_eq_some_iff.mp h
  rw [List.drop_eq_getElem_cons hl, e]
theorem ds_for {gi : Md (List D)} {gt : D → Env → Option Env} {gb : Sd} {body : List Stmt} (hp : PassesOwn (model X.prog X.w) X.A X.env X.xe) (hc : X.calm = true) (hi : DI X tg iter gi) {is : List Nat} (hg : DG X tg is gt) (hb : DSs X body gb) (hs : ∀ x, foldedSetIterable iter X.env x = pure x := by intro _; rfl) : DS X (.For tg iter body [] pos) (sFor gi gt gb) :=
  ps_imp (ps_for hp hc hi hg hb hs) fun E σ H q => by
    obtain ⟨F, ρ, f, ρ', s, eg, k⟩ := q
    obtain ⟨⟨ds, ρ1⟩, e1, eg1⟩ := bind_some eg
    refine ⟨F, ρ, ds, ρ1, s, e1, fun J F1 H1 p1 s1 ok => ?_⟩
    refine ⟨fun i m σi Hi => ∃ Fi ρi, m = ds.length - i ∧ i ≤ ds.length ∧ Stp F σ ρ H Fi σi ρi Hi ∧ St (cxK X) Fi Hi σi ρi ∧ Same F1 Fi ∧ forD gt gb (ds.drop i) ρi = some (f, ρ'), ⟨ds.length, F1, ρ1, by simp, Nat.zero_le _, p1, s1, Same.refl _, by simpa using eg1⟩, ?_⟩
    rintro i m σi Hi ⟨Fi, ρi, rfl, hi, pi, si, sf, ei⟩
    by_cases hlt : i < ds.length
    · have hd : ds[i]? = some ds[i] := List.getElem?_eq_getElem hlt
      obtain ⟨ok1, _⟩ := ok Fi Hi sf si.sub i
      obtain ⟨go, yl⟩ := ok1 _ hd
      rw [drop_cons hd] at ei
      obtain ⟨ρ2, e2, ei1⟩ := bind_some ei
      obtain ⟨⟨f3, ρ3⟩, e3, ei2⟩ := bind_some ei1
      refine .inr ⟨go, fun σ' H' => ∃ F' ρ'', Stp F σ ρ H F' σ' ρ'' H' ∧ St (cxK X) F' H' σ' ρ'' ∧ Same F1 F' ∧ forD gt gb (ds.drop (i + 1)) ρ'' = some (f, ρ'), fun σ' H' ⟨F', ρ'', h1, h2, h3, h4⟩ => ⟨ds.length - (i + 1), by omega, F', ρ'', rfl, hlt, h1, h2, h3, h4⟩, fun v H' hy => ?_⟩
      obtain ⟨F', gr, rv⟩ := yl v H' hy
      have p' := pi.trans (gr.stp σi ρi)
      refine ⟨F', ρi, _, ρ2, si.grow gr, rv, e2, fun σ2 F2 H2 p2 s2 _ => ⟨F2, ρ2, f3, ρ3, s2, e3, fun σ3 F3 H3 p3 s3 => ?_⟩⟩
      have pp := p'.trans (p2.trans p3)
      have sff := sf.trans (gr.ff.trans (p2.ff.trans p3.ff))
      cases f3 with
      | nx => exact ⟨F3, ρ3, pp, s3, sff, ei2⟩
      | cnt => exact ⟨F3, ρ3, pp, s3, sff, ei2⟩
      | brk =>
        cases ei2
        exact k σ3 F3 H3 pp s3
      | ret r =>
        cases ei2
        exact k σ3 F3 H3 pp s3
      | rof r =>
        cases ei2
        exact fl_base (k σ3 F3 H3 pp s3) fun _ n => p'.none (p2.none n)
    · have hl : i = ds.length := by omega
      obtain ⟨_, st⟩ := ok Fi Hi sf si.sub i
      rw [List.drop_of_length_le (by omega)] at ei
      cases ei
      exact .inl ⟨st (by omega), k σi Fi Hi pi si⟩
def wipeE (ρ : Env) : List Nat → Env
  | [] => ρ
  | v :: vs => (wipeE ρ vs).set v none
def notOwn (ρ : Env) (i : Nat) : Bool := match ρ[i]? with
  | some (some (.own _ _)) => false
  | _ => true
def backE (ρ0 : Env) : List Nat → Env → Env
  | [], ρ => ρ
  | v :: vs, ρ => match ρ0[v]? with
    | some o => (backE ρ0 vs ρ).set v o
    | none => backE ρ0 vs ρ
def lcD (vs : List Nat) (tg : D → Env → Option Env) (tt : Md Bool) (te : Md D) : List D → Env → Option (List D × Env)
  | [], ρ => some ([], ρ)
  | d :: ds, ρ => (tg d ρ).bind fun ρ1 => (tt ρ1).bind fun p => if p.1 = true then (te p.2).bind fun q => (lcD vs tg tt te ds (wipeE q.2 vs)).bind fun r => some (q.1 :: r.1, r.2) else lcD vs tg tt te ds (wipeE p.2 vs)
def gLc (vs : List Nat) (gi : Md (List D)) (tg : D → Env → Option Env) (tt : Md Bool) (te : Md D) : Md D := fun ρ => (gi ρ).bind fun p =>
  if p.1.length ≤ 16777216 ∧ vs.all (notOwn p.2) = true then (lcD vs tg tt te p.1 (wipeE p.2 vs)).bind fun r => some (.list r.1, backE p.2 vs r.2) else none
def gTrue : Md Bool := fun ρ => some (true, ρ)
theorem wipeE_out {ρ : Env} {i : Nat} : ∀ {vs : List Nat}, i ∉ vs → (wipeE ρ vs)[i]? = ρ[i]?
  | [], _ => rfl
  | v :: vs, h => by
    unfold wipeE
    rw [List.getElem?_set_ne (fun z => h (by rw [z]; exact List.mem_cons_self)), wipeE_out fun z => h (List.mem_cons_of_mem _ z)]
theorem wipeE_in {ρ : Env} {i : Nat} {c : Cell} : ∀ {vs : List Nat}, (wipeE ρ vs)[i]? = some (some c) → i ∉ vs
  | [], _ => by simp
  | v :: vs, h => by
    unfold wipeE at h
    by_cases z : v = i
    · subst z
      by_cases hl : v < (wipeE ρ vs).length
      · rw [List.getElem?_set_self hl] at h
        cases h
      · rw [List.getElem?_eq_none (by simpa using hl)] at h
        cases h
    · rw [List.getElem?_set_ne z] at h
      have := wipeE_in h
      simp only [List.mem_cons, not_or]
      exact ⟨fun y => z y.symm, this⟩
theorem wipeE_len (ρ : Env) : ∀ vs : List Nat, (wipeE ρ vs).length = ρ.length
  | [] => rfl
  | v :: vs => by
    unfold wipeE
    rw [List.length_set, wipeE_len ρ vs]
theorem wipeE_cell {ρ : Env} {vs : List Nat} {i : Nat} {c : Cell} (h : (wipeE ρ vs)[i]? = some (some c)) : ρ[i]? = some (some c) ∧ i ∉ vs := by
  have n := wipeE_in h
  rw [wipeE_out n] at h
  exact ⟨h, n⟩
theorem backE_len (ρ0 ρ : Env) : ∀ vs : List Nat, (backE ρ0 vs ρ).length = ρ.length
  | [] => rfl
  | v :: vs => by
    unfold backE
    split
    · rw [List.length_set, backE_len ρ0 ρ vs]
    · exact backE_len ρ0 ρ vs
theorem backE_out {ρ0 ρ : Env} {i : Nat} : ∀ {vs : List Nat}, i ∉ vs → (backE ρ0 vs ρ)[i]? = ρ[i]?
  | [], _ => rfl
  | v :: vs, h => by
    unfold backE
    have h1 : i ∉ vs := fun z => h (List.mem_cons_of_mem _ z)
    split
    · rw [List.getElem?_set_ne (fun z => h (by rw [z]; exact List.mem_cons_self)), backE_out h1]
    · exact backE_out h1
theorem backE_in {ρ0 ρ : Env} {i : Nat} (hl : ρ.length = ρ0.length) : ∀ {vs : List Nat}, i ∈ vs → (backE ρ0 vs ρ)[i]? = ρ0[i]?
  | [], h => by simp at h
  | v :: vs, h => by
    unfold backE
    by_cases z : v = i
    · subst z
      split
      · rename_i o e
        rw [List.getElem?_set_self (by rw [backE_len, hl]; exact (List.getElem?_eq_some_iff.mp e).1), e]
      · rename_i e
        have hl2 : ρ0.length ≤ v := List.getElem?_eq_none_iff.mp e
        rw [e]
        exact List.getElem?_eq_none (by rw [backE_len, hl]; exact hl2)
    · have h1 : i ∈ vs := (List.mem_cons.mp h).resolve_left fun y => z y.symm
      split
      · rw [List.getElem?_set_ne z, backE_in hl h1]
      · exact backE_in hl h1
theorem wipe_out' {σ : L2.St} {i : Nat} {vs : List Nat} (h : i ∉ vs) : (wipe σ vs)[i]? = σ[i]? := wipe_out h
theorem st_wipe {K : Kx} {F H : Hp} {σ : L2.St} {ρ : Env} (s : St K F H σ ρ) (vs : List Nat) : St K F H (wipe σ vs) (wipeE ρ vs) where
  sub := s.sub
  len := by rw [wipeE_len, wipe_length]; exact s.len
  cell := fun i c e => by
    obtain ⟨e1, n⟩ := wipeE_cell e
    rw [wipe_out' n]
    exact s.cell i c e1
  dist := fun i j f g d e a h1 h2 h3 h4 => by
    obtain ⟨e1, n1⟩ := wipeE_cell h1
    obtain ⟨e2, n2⟩ := wipeE_cell h2
    rw [wipe_out' n1] at h3
    rw [wipe_out' n2] at h4
    exact s.dist i j f g d e a e1 e2 h3 h4
theorem not_own {ρ : Env} {vs : List Nat} (h : vs.all (notOwn ρ) = true) {i : Nat} (hi : i ∈ vs) {f : Bool} {d : D} : ρ[i]? ≠ some (some (.own f d)) := fun e => by
  have z := List.all_eq_true.mp h i hi
  unfold notOwn at z
  rw [e] at z
  cases z
theorem stp_wipe {F0 F : Hp} {σ0 σ : L2.St} {ρ0 ρ : Env} {H0 H : Hp} (p : Stp F0 σ0 ρ0 H0 F σ ρ H) {vs : List Nat} (hn : ∀ i d, ρ0[i]? = some (some (.own true d)) → i ∉ vs) : Stp F0 σ0 ρ0 H0 F (wipe σ vs) (wipeE ρ vs) H where
  ff := p.ff
  keep := p.keep
  fresh := fun b hb => by
    obtain ⟨i, f, d, e1, e2⟩ := hb
    obtain ⟨e3, n⟩ := wipeE_cell e1
    rw [wipe_out' n] at e2
    exact p.fresh b ⟨i, f, d, e3, e2⟩
  fix := fun i d h => by
    obtain ⟨e1, d', e2⟩ := p.fix i d h
    have n := hn i d h
    rw [wipe_out' n, wipeE_out n]
    exact ⟨e1, d', e2⟩
  dom := p.dom
theorem st_side {K : Kx} {F H : Hp} {σ : L2.St} {ρ : Env} {b : Addr} {o : HO} (s : St K F H σ ρ) (hF : F b = none) (n : ¬ Owns σ ρ b) : St K F (upd H b o) σ ρ where
  sub := fun c u h => by rw [upd_ne (fun z => by subst z; rw [hF] at h; cases h)]; exact s.sub c u h
  len := s.len
  cell := fun i c e => by
    have q := s.cell i c e
    cases c with
    | val d => exact q
    | own f d =>
      obtain ⟨a, e1, f0, ow⟩ := q
      refine ⟨a, e1, f0, ow.mono (Same.refl _) fun o e3 => ?_⟩
      rw [upd_ne (fun z => n (by subst z; exact ⟨i, f, d, e, e1⟩))]
      exact e3
  dist := s.dist
theorem stp_side {F0 F : Hp} {σ0 σ : L2.St} {ρ0 ρ : Env} {H0 H : Hp} (p : Stp F0 σ0 ρ0 H0 F σ ρ H) {b : Addr} {o : HO} (hb : H0 b = none) : Stp F0 σ0 ρ0 H0 F σ ρ (upd H b o) :=
  ⟨p.ff, fun c u h n => by rw [upd_ne (ne_of_none h hb)]; exact p.keep c u h n, p.fresh, p.fix, fun c u h => by rw [upd_ne (ne_of_none h hb)]; exact p.dom c u h⟩
theorem stp_back {F0 F : Hp} {σ : L2.St} {ρ0 ρ : Env} {H0 H : Hp} {vs : List Nat} (p : Stp F0 σ ρ0 H0 F (wipe σ vs) ρ H) (hl : ρ.length = ρ0.length) (hn : vs.all (notOwn ρ0) = true) : Stp F0 σ ρ0 H0 F σ (backE ρ0 vs ρ) H ∧ ∀ b, Owns σ (backE ρ0 vs ρ) b → Owns (wipe σ vs) ρ b := by
  have sub : ∀ b, Owns σ (backE ρ0 vs ρ) b → Owns (wipe σ vs) ρ b := fun b hb => by
    obtain ⟨i, f, d, e1, e2⟩ := hb
    by_cases hi : i ∈ vs
    · rw [backE_in hl hi] at e1
      exact absurd e1 (not_own hn hi)
    · rw [backE_out hi] at e1
      exact ⟨i, f, d, e1, by rw [wipe_out' hi]; exact e2⟩
  refine ⟨⟨p.ff, p.keep, fun b hb => p.fresh b (sub b hb), fun i d h => ?_, p.dom⟩, sub⟩
  have hi : i ∉ vs := fun z => not_own hn z h
  obtain ⟨e1, d', e2⟩ := p.fix i d h
  exact ⟨rfl, d', by rw [backE_out hi]; exact e2⟩
theorem st_back {K : Kx} {F0 F H0 H : Hp} {σ : L2.St} {ρ0 ρ : Env} {vs : List Nat} (s0 : St K F0 H0 σ ρ0) (s : St K F H (wipe σ vs) ρ) (sf : Same F0 F) (hn : vs.all (notOwn ρ0) = true) : St K F H σ (backE ρ0 vs ρ) := by
  have hl : ρ.length = ρ0.length := by rw [s.len, wipe_length, s0.len]
  have own : ∀ (i : Nat) (f : Bool) (d : D), (backE ρ0 vs ρ)[i]? = some (some (.own f d)) → i ∉ vs ∧ ρ[i]? = some (some (.own f d)) := fun i f d e => by
    by_cases hi : i ∈ vs
    · rw [backE_in hl hi] at e
      exact absurd e (not_own hn hi)
    · rw [backE_out hi] at e
      exact ⟨hi, e⟩
  refine ⟨s.sub, by rw [backE_len, hl]; exact s0.len, fun i c e => ?_, fun i j f g d e a h1 h2 h3 h4 => ?_⟩
  · by_cases hi : i ∈ vs
    · rw [backE_in hl hi] at e
      cases c with
      | val d =>
        obtain ⟨v, e1, r⟩ := s0.cell i _ e
        exact ⟨v, e1, dp_mono sf _ _ r⟩
      | own f d => exact absurd e (not_own hn hi)
    · rw [backE_out hi] at e
      have q := s.cell i c e
      rw [wipe_out' hi] at q
      exact q
  · obtain ⟨n1, e1⟩ := own i f d h1
    obtain ⟨n2, e2⟩ := own j g e h2
    exact s.dist i j f g d e a e1 e2 (by rw [wipe_out' n1]; exact h3) (by rw [wipe_out' n2]; exact h4)
theorem wipe_in' {σ : L2.St} {i : Nat} (hi : i < σ.length) : ∀ {vs : List Nat}, i ∈ vs → (wipe σ vs)[i]? = some none
  | [], h => by simp at h
  | v :: vs, h => by
    unfold wipe
    by_cases z : v = i
    · subst z
      exact List.getElem?_set_self (by rw [wipe_length]; exact hi)
    · rw [List.getElem?_set_ne z]
      exact wipe_in' hi ((List.mem_cons.mp h).resolve_left fun y => z y.symm)
theorem wipe_eq {σ σ2 : L2.St} {vs is : List Nat} (hs : ∀ j, j ∉ is → σ2[j]? = (wipe σ vs)[j]?) (hv : ∀ j ∈ is, j ∈ vs) (hl : σ2.length = σ.length) : wipe σ2 vs = wipe σ vs := by
  refine List.ext_getElem? fun j => ?_
  by_cases hj : j ∈ vs
  · by_cases h : j < σ.length
    · rw [wipe_in' h hj, wipe_in' (by rw [hl]; exact h) hj]
    · rw [List.getElem?_eq_none (by rw [wipe_length, hl]; omega), List.getElem?_eq_none (by rw [wipe_length]; omega)]
  · rw [wipe_out' hj]
    exact hs j fun z => hj (hv j z)
theorem lc_q {vs is : List Nat} (hv : ∀ j ∈ is, j ∈ vs) {gi : Md (List D)} {gt : D → Env → Option Env} {gc : Md Bool} {ge : Md D} {σ : L2.St} {H : Hp} {Q : VK} (q : tF (cxK X) (gLc vs gi gt gc ge) σ H Q) : tLc (tDI (cxK X) gi) (tDG (cxK X) is gt) (tDT (cxK X) gc) (tD (cxK X) ge) vs σ H Q := by
    obtain ⟨F, ρ, d, ρ', s, eg, k⟩ := q
    obtain ⟨⟨ds, ρ1⟩, e1, eg1⟩ := bind_some eg
    simp only at eg1
    split at eg1
    · rename_i hl
      obtain ⟨⟨rs, ρe⟩, e2, eg2⟩ := bind_some eg1
      cases eg2
      refine ⟨F, ρ, ds, ρ1, s, e1, fun J F1 H1 p1 s1 ok D hD => ?_⟩
      have hw := st_wipe s1 vs
      have hnv : ∀ i dd, ρ1[i]? = some (some (.own true dd)) → i ∉ vs := fun i dd e hi => not_own hl.2 hi e
      have p1w : Stp F1 σ ρ1 H1 F1 (wipe σ vs) (wipeE ρ1 vs) H1 := stp_wipe Stp.refl hnv
      have nD0 : ¬ Owns (wipe σ vs) (wipeE ρ1 vs) D := not_owns hw hD
      refine ⟨fun i m Hi => ∃ Fi ρi acc as rr, m = ds.length - i ∧ i ≤ ds.length ∧ Stp F1 σ ρ1 H1 Fi (wipe σ vs) ρi Hi ∧ St (cxK X) Fi Hi (wipe σ vs) ρi ∧ lcD vs gt gc ge (ds.drop i) ρi = some (rr, ρe) ∧ as ++ rr = rs ∧ (Fi D = none ∧ ¬ Owns (wipe σ vs) ρi D) ∧ Hi D = some (.lst acc) ∧ RpAll (cxK X) Fi acc as ∧ as.length ≤ i,
        ⟨ds.length, F1, wipeE ρ1 vs, [], [], rs, by simp, Nat.zero_le _, p1w.trans ((Grow.own s1.sub hD).stp _ _), hw.grow (Grow.own s1.sub hD), by simpa using e2, by simp, ⟨none_sub s1.sub hD, nD0⟩, upd_same, .nil, by simp⟩, ?_⟩
      rintro i m Hi ⟨Fi, ρi, acc, as, rr, rfl, hi, pi, si, ei, er, ⟨fD, nD⟩, hDi, ra, la⟩
      have sff : Same F1 Fi := pi.ff
      by_cases hlt : i < ds.length
      · have hd : ds[i]? = some ds[i] := List.getElem?_eq_getElem hlt
        obtain ⟨ok1, _⟩ := ok Fi Hi sff si.sub i
        obtain ⟨go, yl⟩ := ok1 _ hd
        rw [drop_cons hd] at ei
        obtain ⟨ρ2, e3, ei1⟩ := bind_some ei
        obtain ⟨⟨b, ρ3⟩, e4, ei2⟩ := bind_some ei1
        refine .inr ⟨go, fun H' => ∃ F' ρ'' acc' as' rr', Stp F1 σ ρ1 H1 F' (wipe σ vs) ρ'' H' ∧ St (cxK X) F' H' (wipe σ vs) ρ'' ∧ lcD vs gt gc ge (ds.drop (i + 1)) ρ'' = some (rr', ρe) ∧ as' ++ rr' = rs ∧ (F' D = none ∧ ¬ Owns (wipe σ vs) ρ'' D) ∧ H' D = some (.lst acc') ∧ RpAll (cxK X) F' acc' as' ∧ as'.length ≤ i + 1,
          fun H' ⟨F', ρ'', acc', as', rr', z1, z2, z3, z4, z5, z6, z7, z8⟩ => ⟨ds.length - (i + 1), by omega, F', ρ'', acc', as', rr', rfl, hlt, z1, z2, z3, z4, z5, z6, z7, z8⟩, fun v H' hy => ?_⟩
        obtain ⟨F', gr, rv⟩ := yl v H' hy
        have q0 := gr.stp (wipe σ vs) ρi
        refine ⟨F', ρi, _, ρ2, si.grow gr, rv, e3, fun σ2 F2 H2 p2 s2 w2 => ?_⟩
        have ew : wipe σ2 vs = wipe σ vs := wipe_eq w2.2 hv (w2.1.trans (wipe_length σ vs))
        refine ⟨ew, F2, ρ2, b, ρ3, s2, e4, fun F3 H3 p3 s3 => ?_⟩
        have q3 := q0.trans (p2.trans p3)
        have fin : ∀ (F4 : Hp) (ρ4 : Env) (H4 : Hp), Stp Fi (wipe σ vs) ρi Hi F4 σ2 ρ4 H4 → St (cxK X) F4 H4 σ2 ρ4 → H4 D = some (.lst acc) ∧ F4 D = none ∧ ¬ Owns (wipe σ vs) (wipeE ρ4 vs) D ∧ Stp F1 σ ρ1 H1 F4 (wipe σ vs) (wipeE ρ4 vs) H4 ∧ St (cxK X) F4 H4 (wipe σ vs) (wipeE ρ4 vs) := fun F4 ρ4 H4 q s4 => by
          obtain ⟨h1, h2⟩ := q.keep D _ hDi nD
          have h3 := stp_wipe (pi.trans q) hnv
          have h4 := st_wipe s4 vs
          rw [ew] at h3 h4
          refine ⟨h1, h2.trans fD, fun z => ?_, h3, h4⟩
          obtain ⟨j, f, dd, z1, z2⟩ := z
          obtain ⟨z3, z4⟩ := wipeE_cell z1
          rw [← ew, wipe_out' z4] at z2
          rcases q.fresh D ⟨j, f, dd, z3, z2⟩ with y | y
          · exact nD y
          · rw [hDi] at y
            cases y
        cases b with
        | true =>
          rw [if_pos rfl] at ei2
          obtain ⟨⟨y, ρ4⟩, e5, ei3⟩ := bind_some ei2
          obtain ⟨⟨r, ρ5⟩, e6, ei4⟩ := bind_some ei3
          cases ei4
          refine ⟨F3, ρ3, y, ρ4, s3, e5, fun u F4 H4 p4 s4 r4 => ?_⟩
          have q4 := q3.trans p4
          obtain ⟨h1, h2, h3, h4, h5⟩ := fin F4 ρ4 H4 q4 s4
          refine ⟨acc, h1, by rw [line_eq, da_len ra]; omega, F4, wipeE ρ4 vs, acc ++ [u], as ++ [y], r, stp_side h4 hD, st_side h5 h2 h3, e6, by rw [List.append_assoc]; exact er, ⟨h2, h3⟩, upd_same, da_app (dpAll_mono q4.ff _ _ ra) (.cons r4 .nil), by rw [List.length_append]; simpa using la⟩
        | false =>
          rw [if_neg Bool.false_ne_true] at ei2
          obtain ⟨h1, h2, h3, h4, h5⟩ := fin F3 ρ3 H3 q3 s3
          exact ⟨F3, wipeE ρ3 vs, acc, as, rr, h4, h5, ei2, er, ⟨h2, h3⟩, h1, dpAll_mono q3.ff _ _ ra, by omega⟩
      · rw [List.drop_of_length_le (by omega)] at ei
        cases ei
        obtain ⟨_, st⟩ := ok Fi Hi sff si.sub i
        refine .inl ⟨st (by omega), ?_⟩
        rw [List.append_nil] at er
        subst er
        obtain ⟨pb, sb⟩ := stp_back pi (by rw [si.len, wipe_length, s1.len]) hl.2
        exact k D Fi Hi (p1.trans pb) (st_back s1 si sff hl.2) ⟨⟨fD, .inl ⟨acc, as, rfl, hDi, ra⟩⟩, rfl⟩ (fun z => nD (sb D z)) (p1.none hD)
    · cases eg1
end
end Dn
set_option maxHeartbeats 2000000
namespace Dn
open PySem PySem.Spec PyProof.Rows L2
def vals (ds : List D) : Env := ds.map fun d => some (.val d)
def envV (N : Nat) (ds : List D) : Env := vals ds ++ List.replicate (N - ds.length) none
def endV : Fl × Env → Option D
  | (.ret d, _) => some d
  | (.nx, _) => some .none
  | _ => none
def runV (N : Nat) (g : Sd) (ds : List D) : Option D := (g (envV N ds)).bind endV
def envIO (N : Nat) (d : D) (ds : List D) : Env := some (.own true d) :: (vals ds ++ List.replicate (N - (ds.length + 1)) none)
def ownOf : Option (Option Cell) → Option D
  | some (some (.own true d)) => some d
  | _ => none
def endIO (p : Fl × Env) : Option (D × D) := (ownOf p.2[0]?).bind fun d => (endV p).bind fun r => some (r, d)
def runIO (N : Nat) (g : Sd) (d : D) (ds : List D) : Option (D × D) := (g (envIO N d ds)).bind endIO
theorem vals_get {ds : List D} {n i : Nat} {c : Cell} (h : (vals ds ++ List.replicate n none)[i]? = some (some c)) : ∃ d, ds[i]? = some d ∧ c = .val d := by
  by_cases hi : i < ds.length
  · rw [List.getElem?_append_left (by simpa [vals] using hi)] at h
    unfold vals at h
    rw [List.getElem?_map] at h
    cases q : ds[i]? with
    | none => rw [q] at h; cases h
    | some d =>
      rw [q] at h
      cases h
      exact ⟨d, rfl, rfl⟩
  · rw [List.getElem?_append_right (by simpa [vals] using Nat.le_of_not_lt hi)] at h
    have h2 := List.mem_of_getElem? h
    have := List.eq_of_mem_replicate h2
    cases this
theorem start_get {vs : List V} {n i : Nat} {v : V} (h : vs[i]? = some v) : (vs.map some ++ List.replicate n none)[i]? = some (some v) := by
  have hi := (List.getElem?_eq_some_iff.mp h).1
  rw [List.getElem?_append_left (by simpa using hi), List.getElem?_map, h]
  rfl
theorem st_vals {K : Kx} {F H : Hp} {N : List Str} {vs : List V} {ds : List D} (s : Same F H) (hd : RpAll K F vs ds) : St K F H (L2.start N vs) (envV N.length ds) where
  sub := s
  len := by simp [envV, L2.start, vals, da_len hd]
  cell := fun i c h => by
    obtain ⟨d, e, rfl⟩ := vals_get h
    obtain ⟨v, e1, r⟩ := da_at hd e
    exact ⟨v, start_get e1, r⟩
  dist := fun i j f g d e a h1 _ _ _ => by
    obtain ⟨d', _, z⟩ := vals_get h1
    cases z
theorem no_owns {σ : L2.St} {N : Nat} {ds : List D} {b : Addr} : ¬ Owns σ (envV N ds) b := fun z => by
  obtain ⟨i, f, d, h, _⟩ := z
  obtain ⟨d', _, z⟩ := vals_get h
  cases z
theorem stp_grow {K : Kx} {F F' H H' : Hp} {σ σ' : L2.St} {N : Nat} {ds : List D} {ρ' : Env} (p : Stp F σ (envV N ds) H F' σ' ρ' H') (s : St K F' H' σ' ρ') : Grow F H F' H' :=
  ⟨p.ff, fun b o h => (p.keep b o h no_owns).1, s.sub, fun b o h => (p.keep b o h no_owns).2⟩
section
variable {P : Program} {w : World} {K : PySem.W.Frag} {mg : Str → Option Value} {base : Heap}
theorem fn_V {x qual : Str} {st : Stmt} {f : Addr} {fd : FuncData} {N ps : List Str} {k : Nat} {g : Sd} (Fn : Fun K x qual st f fd) (S : FnScope N ps (defScope st))
    (hbody : ∀ (cdv : Value) (A : Around) (outer : List PySem.Env) (s : Shared) (H : Hp) (E : XK), Room k (A.deeper (envOfC qual (defScope st) s.heap.objs.size f cdv)) → DSs (cxOf CX0 P w K mg base N qual (defScope st) f cdv A outer s H E).nox (defBody st) g) :
    FnOk P w K mg base CX0 (k + 1) f fd ps (spV ⟨K, P, w⟩ ps.length (runV N.length g)) := by
  refine Fn.ok S (fun vs H Q E h => h.1) fun cdv A outer s H vs Q E hr h => ⟨_, hbody cdv A outer s H E hr, ?_⟩
  obtain ⟨_, F, ds, r, sf, hd, ef, k⟩ := h
  obtain ⟨⟨fl, ρ'⟩, e1, e2⟩ := bind_some ef
  refine ⟨F, envV N.length ds, fl, ρ', st_vals sf hd, e1, fun σ' F' H' p s' => ?_⟩
  have gr := stp_grow p s'
  cases fl with
  | nx =>
    cases e2
    exact k .non F' H' gr .non
  | ret d =>
    cases e2
    exact fun v rv => k v F' H' gr rv
  | rof d => cases e2
  | brk => cases e2
  | cnt => cases e2
def endF : Fl × Env → Option D
  | (.rof d, _) => some d
  | _ => none
def runF (N : Nat) (g : Sd) (ds : List D) : Option D := (g (envV N ds)).bind endF
theorem fn_F {x qual : Str} {st : Stmt} {f : Addr} {fd : FuncData} {N ps : List Str} {k : Nat} {g : Sd} (Fn : Fun K x qual st f fd) (S : FnScope N ps (defScope st))
    (hbody : ∀ (cdv : Value) (A : Around) (outer : List PySem.Env) (s : Shared) (H : Hp) (E : XK), Room k (A.deeper (envOfC qual (defScope st) s.heap.objs.size f cdv)) → DSs (cxOf CX0 P w K mg base N qual (defScope st) f cdv A outer s H E).nox (defBody st) g) :
    FnOk P w K mg base CX0 (k + 1) f fd ps (spF ⟨K, P, w⟩ ps.length (runF N.length g)) := by
  refine Fn.ok S (fun vs H Q E h => h.1) fun cdv A outer s H vs Q E hr h => ⟨_, hbody cdv A outer s H E hr, ?_⟩
  obtain ⟨_, F, ds, r, sf, hd, ef, k⟩ := h
  obtain ⟨⟨fl, ρ'⟩, e1, e2⟩ := bind_some ef
  refine ⟨F, envV N.length ds, fl, ρ', st_vals sf hd, e1, fun σ' F' H' p s' => ?_⟩
  have gr := stp_grow p s'
  cases fl with
  | rof d =>
    cases e2
    exact fun a o n => k a F' H' gr o n
  | nx => cases e2
  | ret d => cases e2
  | brk => cases e2
  | cnt => cases e2
theorem io_get {d : D} {ds : List D} {n i : Nat} {c : Cell} (h : ((some (Cell.own true d) :: (vals ds ++ List.replicate n none)) : Env)[i]? = some (some c)) : (i = 0 ∧ c = .own true d) ∨ ∃ j e, i = j + 1 ∧ ds[j]? = some e ∧ c = .val e := by
  cases i with
  | zero =>
    cases h
    exact .inl ⟨rfl, rfl⟩
  | succ j =>
    rw [List.getElem?_cons_succ] at h
    obtain ⟨e, h1, h2⟩ := vals_get h
    exact .inr ⟨j, e, rfl, h1, h2⟩
theorem fn_IO {x qual : Str} {st : Stmt} {f : Addr} {fd : FuncData} {N ps : List Str} {k : Nat} {g : Sd} (Fn : Fun K x qual st f fd) (S : FnScope N ps (defScope st)) (hN : 0 < N.length)
    (hbody : ∀ (cdv : Value) (A : Around) (outer : List PySem.Env) (s : Shared) (H : Hp) (E : XK), Room k (A.deeper (envOfC qual (defScope st) s.heap.objs.size f cdv)) → DSs (cxOf CX0 P w K mg base N qual (defScope st) f cdv A outer s H E).nox (defBody st) g) :
    FnOk P w K mg base CX0 (k + 1) f fd ps (spIO ⟨K, P, w⟩ ps.length (runIO N.length g)) := by
  refine Fn.ok S (fun vs H Q E h => h.1) fun cdv A outer s H vs Q E hr h => ⟨_, hbody cdv A outer s H E hr, ?_⟩
  obtain ⟨_, F, a, ws, d, ds, r, d', rfl, sf, o, hd, ef, k⟩ := h
  obtain ⟨⟨fl, ρ'⟩, e1, e2⟩ := bind_some ef
  have hs0 : (L2.start N (.ref a :: ws))[0]? = some (some (.ref a)) := rfl
  have hst : St (Kx.mk K P w) F H (L2.start N (.ref a :: ws)) (envIO N.length d ds) := by
    refine ⟨sf, by simp [envIO, L2.start, vals, da_len hd], fun i c h => ?_, fun i j f g d e b h1 h2 _ _ => ?_⟩
    · rcases io_get h with ⟨rfl, rfl⟩ | ⟨j, e, rfl, h1, rfl⟩
      · exact ⟨a, hs0, o⟩
      · obtain ⟨v, e3, rv⟩ := da_at hd h1
        exact ⟨v, start_get (vs := .ref a :: ws) (i := j + 1) e3, rv⟩
    · rcases io_get h1 with ⟨rfl, _⟩ | ⟨_, _, _, _, z⟩
      · rcases io_get h2 with ⟨rfl, _⟩ | ⟨_, _, _, _, z⟩
        · rfl
        · cases z
      · cases z
  refine ⟨F, envIO N.length d ds, fl, ρ', hst, e1, fun σ' F' H' p s' => ?_⟩
  have own1 : ∀ b, Owns (L2.start N (.ref a :: ws)) (envIO N.length d ds) b → b = a := fun b z => by
    obtain ⟨i, f, e, h1, h2⟩ := z
    rcases io_get h1 with ⟨rfl, _⟩ | ⟨_, _, _, _, z⟩
    · rw [hs0] at h2
      cases h2
      rfl
    · cases z
  obtain ⟨f1, d1, f2⟩ := p.fix 0 d rfl
  have f3 : ρ'[0]? = some (some (.own true d1)) := f2
  have o' : OwnAt (Kx.mk K P w) F' H' a d1 := by
    obtain ⟨b, z1, z2⟩ := s'.cell 0 _ f3
    rw [f1, hs0] at z1
    cases z1
    exact z2
  have kp : ∀ b u, H b = some u → b ≠ a → H' b = some u ∧ F' b = F b := fun b u h n => p.keep b u h fun z => n (own1 b z)
  have e3 : (endV (fl, ρ')).bind (fun r => some (r, d1)) = some (r, d') := by
    have e4 : endIO (fl, ρ') = some (r, d') := e2
    unfold endIO at e4
    rw [show (fl, ρ').2[0]? = some (some (.own true d1)) from f3] at e4
    exact e4
  cases fl with
  | nx =>
    cases e3
    exact k .non F' H' p.ff s'.sub kp o' .non
  | ret d =>
    cases e3
    exact fun v rv => k v F' H' p.ff s'.sub kp o' rv
  | rof d => cases e3
  | brk => cases e3
  | cnt => cases e3
end
def peek (ρ : Env) (i : Nat) : Option D := match ρ[i]? with
  | some (some (.val d)) => some d
  | some (some (.own _ d)) => if notT d = true then some d else none
  | _ => none
def flatD : D → Bool
  | .none => true
  | .bool _ => true
  | .int _ => true
  | .str _ => true
  | _ => false
def gPk (i : Nat) (f : List D → Option D) : Md D := fun ρ => (peek ρ i).bind fun d => (f [d]).bind fun r => if flatD r = true then some (r, ρ) else none
theorem peek_dp {K : Kx} {F H : Hp} {σ : L2.St} {ρ : Env} {i : Nat} {d : D} (s : St K F H σ ρ) (h : peek ρ i = some d) : ∃ v, σ[i]? = some (some v) ∧ Rp K H v d := by
  unfold peek at h
  split at h
  · rename_i d' e
    cases h
    obtain ⟨v, e1, r⟩ := st_val s e
    exact ⟨v, e1, dp_mono s.sub _ _ r⟩
  · rename_i f d' e
    by_cases hnt : notT d' = true
    case neg =>
      rw [if_neg hnt] at h
      cases h
    rw [if_pos hnt] at h
    cases h
    obtain ⟨a, e1, o, _⟩ := st_owned s e
    obtain ⟨f0, o⟩ := o
    rcases o with ⟨xs, ds, rfl, hx, r⟩ | ⟨xs, es, rfl, hx, r⟩ | ⟨xs, es, rfl, hx, r⟩
    · exact ⟨.ref a, e1, .lst (SqL.of hx) (dpAll_mono s.sub _ _ r)⟩
    · exact ⟨.ref a, e1, .dicN hx (dpN_mono s.sub _ _ r)⟩
    · cases hnt
  · cases h
section
variable {X : Cx} {e a : Expr} {pos p py : Pos} {x y : Str}
def ixO (d x : D) : Option D := if notT d = true then ixD d x else none
def gIxB (i : Nat) (gi : Md D) : Md D := fun ρ => match ρ[i]? with
  | some (some (.val d)) => (gi ρ).bind fun p => (ixD d p.1).bind fun r => some (r, p.2)
  | some (some (.own _ _)) => (gi ρ).bind fun p => match p.2[i]? with
    | some (some (.own _ d)) => (ixO d p.1).bind fun r => some (r, p.2)
    | _ => none
  | _ => none
theorem de_ixB (i : Nat) {gi : Md D} (hN : X.N[i]? = some y) (hy : Vis X.env.scope y) (hi : DE X a gi) (hs : PlainIx a) (hdy : (y == ("__debug__" : Str)) = false := by decide) (hcd : (y == ("__classdict__" : Str)) = false := by decide) : DE X (.Subscript (.Name y py) a pos) (gIxB i gi) :=
  pe_imp (pe_ix (ix_list.or ix_D) (pe_var hN hy hdy hcd) hi hs) fun σ H Q q => by
    obtain ⟨F, ρ, d, ρ', s, eg, k⟩ := q
    unfold gIxB at eg
    split at eg
    · rename_i d0 h0
      obtain ⟨⟨di, ρ1⟩, e1, eg1⟩ := bind_some eg
      obtain ⟨r, e2, eg2⟩ := bind_some eg1
      cases eg2
      obtain ⟨v, ev, rv⟩ := st_val s h0
      exact ⟨v, ev, F, ρ, di, _, s, e1, fun u F1 H1 p1 s1 r1 => .inr ⟨F1, d0, di, _, s1.sub, dp_mono p1.ff _ _ rv, r1, e2, fun z F2 H2 gr rz => k z F2 H2 (p1.trans (gr.stp σ _)) (s1.grow gr) rz⟩⟩
    · rename_i b0 d0 h0
      obtain ⟨a0, ea, o0, _⟩ := st_owned s h0
      obtain ⟨⟨di, ρ1⟩, e1, eg1⟩ := bind_some eg
      simp only at eg1
      split at eg1
      · rename_i b1 d1 h1
        obtain ⟨r, e2, eg2⟩ := bind_some eg1
        cases eg2
        refine ⟨.ref a0, ea, F, ρ, di, _, s, e1, fun u F1 H1 p1 s1 r1 => .inl ?_⟩
        obtain ⟨a1, ea1, o1, _⟩ := st_owned s1 h1
        rw [ea] at ea1
        cases ea1
        obtain ⟨f1, o1⟩ := o1
        rcases o1 with ⟨xs, ds, rfl, hx, rx⟩ | ⟨xs, es, rfl, _⟩ | ⟨xs, es, rfl, _⟩
        case inr.inl => cases di <;> cases e2
        case inr.inr => cases e2
        have e2 : ixD (.list ds) di = some d := e2
        cases di with
        | int z =>
          obtain ⟨w, ew, rw'⟩ := da_ix rx e2
          cases r1
          exact ⟨a0, xs, z, w, rfl, rfl, SqL.of hx, ixA_at ew, k w F1 H1 p1 s1 rw'⟩
        | none => cases e2
        | bool _ => cases e2
        | str _ => cases e2
        | list _ => cases e2
        | tuple _ => cases e2
        | dict _ => cases e2
      · cases eg1
    · cases eg
def inT (d : D) : D → Option Bool
  | .list ds => if SeqAt.shaped d = true ∧ SeqAt.shaped (.list ds) = true then some (ds.any fun z => PyData.eqv z d) else none
  | .tuple ds => if flatD d = true ∧ ds.all flatD = true then some (ds.any fun z => PyData.eqv z d) else none
  | _ => none
def inD (d e : D) : Option D := (inT d e).bind fun b => some (.bool b)
def ninD (d e : D) : Option D := (inT d e).bind fun b => some (.bool !b)
theorem flat_V {K : Kx} {H : Hp} {v : V} {d : D} (h : Rp K H v d) (fl : flatD d = true) : flatV v = true := by
  cases h with
  | non => rfl
  | bl b => rfl
  | int i => rfl
  | str x => rfl
  | lst _ _ => cases fl
  | tup _ _ => cases fl
  | dic _ _ _ => cases fl
  | dicE _ => cases fl
  | dicN _ _ => cases fl
theorem eq_V {K : Kx} {H : Hp} {v w : V} {d e : D} (h : Rp K H v d) (h2 : Rp K H w e) (f1 : flatD d = true) (f2 : flatD e = true) : eqV v w = PyData.eqv d e := by
  cases h <;> (try cases f1) <;> cases h2 <;> (try cases f2) <;> simp [eqV, PyData.eqv]
theorem in_V {K : Kx} {H : Hp} {v : V} {d : D} (h : Rp K H v d) (f1 : flatD d = true) : ∀ {ds : List D} {vs : List V}, RpAll K H vs ds → ds.all flatD = true → vs.all flatV = true ∧ inV v vs = ds.any fun z => PyData.eqv z d
  | _, _, .nil, _ => ⟨rfl, rfl⟩
  | _, _, .cons r rs, f2 => by
    rw [List.all_cons, Bool.and_eq_true] at f2
    obtain ⟨h1, h2⟩ := in_V h f1 rs f2.2
    refine ⟨by rw [List.all_cons, flat_V r f2.1, h1]; rfl, ?_⟩
    unfold inV at h2 ⊢
    rw [List.any_cons, List.any_cons, h2, eq_V r h f2.1 f1]
theorem in_any (hu : X.A.units + 65 < cLine) {v w : V} {H : Hp} {Q : VK} {d e : D} {b : Bool} (hd : Rp (cxK X) H v d) (he : Rp (cxK X) H w e) (h : inT d e = some b) (q : Q (.bl b) H) : rInD (cxK X) v w H Q ∨ rIn (cxK X) false v w H Q := by
  unfold inT at h
  split at h
  · split at h
    · rename_i hs
      cases h
      exact .inl ⟨d, _, rp_dp hd (SeqAt.canLay_of_shaped hs.1), rp_dp he (SeqAt.canLay_of_shaped hs.2), hs.1, hs.2, q⟩
    · cases h
  · split at h
    · rename_i hs
      cases h
      cases he with
      | @tup a vs _ h1 d1 =>
        obtain ⟨z1, z2⟩ := in_V hd hs.1 d1 hs.2
        exact .inr ⟨a, vs, rfl, .inr h1, flat_V hd hs.1, z1, by rw [z2]; exact q⟩
    · cases h
  · cases h
theorem nin_any (hu : X.A.units + 65 < cLine) {v w : V} {H : Hp} {Q : VK} {d e : D} {b : Bool} (hd : Rp (cxK X) H v d) (he : Rp (cxK X) H w e) (h : inT d e = some b) (q : Q (.bl !b) H) : rNotInD (cxK X) v w H Q ∨ rIn (cxK X) true v w H Q := by
  unfold inT at h
  split at h
  · split at h
    · rename_i hs
      cases h
      exact .inl ⟨d, _, rp_dp hd (SeqAt.canLay_of_shaped hs.1), rp_dp he (SeqAt.canLay_of_shaped hs.2), hs.1, hs.2, q⟩
    · cases h
  · split at h
    · rename_i hs
      cases h
      cases he with
      | @tup a vs _ h1 d1 =>
        obtain ⟨z1, z2⟩ := in_V hd hs.1 d1 hs.2
        exact .inr ⟨a, vs, rfl, .inr h1, flat_V hd hs.1, z1, by rw [z2]; exact q⟩
    · cases h
  · cases h
theorem op_inD' (hu : X.A.units + 65 < cLine) : OpR X (compareOp .In) (rP2 (cxK X) inD) := by
  intro pins s σ H v w t u Q I rx ry h
  obtain ⟨F, d, e, r, sf, hd, he, ef, k⟩ := h
  obtain ⟨b, e1, e2⟩ := bind_some ef
  cases e2
  exact ((op_inD hu).or op_in_seq) pins s σ H v w t u Q I rx ry (in_any hu (dp_mono sf _ _ hd) (dp_mono sf _ _ he) e1 (k _ F H (Grow.refl sf) (.bl _)))
theorem op_ninD' (hu : X.A.units + 65 < cLine) : OpR X (compareOp .NotIn) (rP2 (cxK X) ninD) := by
  intro pins s σ H v w t u Q I rx ry h
  obtain ⟨F, d, e, r, sf, hd, he, ef, k⟩ := h
  obtain ⟨b, e1, e2⟩ := bind_some ef
  cases e2
  exact ((op_notInD hu).or op_notIn_seq) pins s σ H v w t u Q I rx ry (nin_any hu (dp_mono sf _ _ hd) (dp_mono sf _ _ he) e1 (k _ F H (Grow.refl sf) (.bl _)))
def gInB (neg : Bool) (i : Nat) (g : Md D) : Md D := fun ρ => (g ρ).bind fun p => (peek p.2 i).bind fun e => (inT p.1 e).bind fun b => some (.bool (if neg = true then !b else b), p.2)
def truT : D → Option Bool
  | .none => some false
  | .bool b => some b
  | .int i => some (i != 0)
  | .str x => if x.length ≤ 16777216 then some ((x.length : Int) != 0) else none
  | .list ds => some (!ds.isEmpty)
  | .tuple ds => some (!ds.isEmpty)
  | _ => none
theorem da_emp {K : Kx} {H : Hp} {vs : List V} {ds : List D} (h : RpAll K H vs ds) : vs.isEmpty = ds.isEmpty := by
  cases h <;> rfl
theorem tru_dp {K : Kx} {H : Hp} {v : V} {d : D} {b : Bool} (h : Rp K H v d) (e : truT d = some b) : TruV K v H b := by
  cases h with
  | non =>
    cases e
    exact rfl
  | bl b =>
    cases e
    exact rfl
  | int i =>
    cases e
    exact rfl
  | str x =>
    have e1 : (if x.length ≤ 16777216 then some ((x.length : Int) != 0) else none) = some b := e
    by_cases hl : x.length ≤ 16777216
    · rw [if_pos hl] at e1
      cases e1
      exact ⟨by rw [line_eq]; exact hl, rfl⟩
    · rw [if_neg hl] at e1
      cases e1
  | lst h1 d1 =>
    cases e
    exact .inl ⟨_, h1, by rw [da_emp d1]⟩
  | tup h1 d1 =>
    cases e
    exact .inr (.inl ⟨_, h1, by rw [da_emp d1]⟩)
  | dic _ _ _ => cases e
  | dicE _ => cases e
  | dicN _ _ => cases e
def gTru (g : Md D) : Md Bool := fun ρ => (g ρ).bind fun p => (truT p.1).bind fun b => some (b, p.2)
def gTruB (i : Nat) : Md Bool := fun ρ => (peek ρ i).bind fun d => (truT d).bind fun b => some (b, ρ)
theorem dt_tru {g : Md D} (ha : DE X a g) (he : ∀ whole, isTrue a X.env whole = (do let v ← whole; standAt a.pos; holding [v] (truthy v)) := by intro _; rfl) : DT X a (gTru g) :=
  pt_imp (pt_truth ha he) fun σ H Q q => by
    obtain ⟨F, ρ, d, ρ', s, eg, k⟩ := q
    obtain ⟨⟨d1, ρ1⟩, e1, eg1⟩ := bind_some eg
    obtain ⟨b, e2, eg2⟩ := bind_some eg1
    cases eg2
    exact ⟨F, ρ, d1, _, s, e1, fun v F1 H1 p1 s1 r1 => ⟨_, tru_dp (dp_mono s1.sub _ _ r1) e2, k F1 H1 p1 s1⟩⟩
theorem dts_nil : PTs X [] (tDT (cxK X) gTrue) := ⟨fun pins s σ H Q I q => pts_nil.run pins s σ H Q I (by
  obtain ⟨F, ρ, d, ρ', st, eg, k⟩ := q
  cases eg
  exact k F H Stp.refl st)⟩
theorem dts_one {c : Expr} {g : Md Bool} (h : DT X c g) : PTs X [c] (tDT (cxK X) g) := pts_one h
theorem df_lc {e : Expr} {vs is : List Nat} {gi : Md (List D)} {gt : D → Env → Option Env} {gc : Md Bool} {ge : Md D} (h : PE X e (tLc (tDI (cxK X) gi) (tDG (cxK X) is gt) (tDT (cxK X) gc) (tD (cxK X) ge) vs)) (hv : ∀ j ∈ is, j ∈ vs := by decide) : DF X e (gLc vs gi gt gc ge) := pe_imp h fun _ _ _ q => lc_q hv q
theorem ds_lcO {st : Stmt} {i : Nat} {vs is : List Nat} {gi : Md (List D)} {gt : D → Env → Option Env} {gc : Md Bool} {ge : Md D} (h : PS X st (fun E σ H => tLc (tDI (cxK X) gi) (tDG (cxK X) is gt) (tDT (cxK X) gc) (tD (cxK X) ge) vs σ H fun v H1 => E.nx (σ.set i (some v)) H1)) (hv : ∀ j ∈ is, j ∈ vs := by decide) : DS X st (sOwn i (gLc vs gi gt gc ge)) :=
  ps_imp h fun E σ H q => by
    obtain ⟨F, ρ, f, ρ', s, eg, k⟩ := q
    obtain ⟨⟨d, ρ1⟩, e1, eg1⟩ := bind_some eg
    obtain ⟨r, e2, eg2⟩ := bind_some eg1
    cases eg2
    refine lc_q hv ⟨F, ρ, d, ρ1, s, e1, fun a F1 H1 p1 s1 o no hn => k _ F1 H1 (stp_set p1 e2 fun _ _ b _ z => ?_) (st_set s1 e2 ⟨a, rfl, o.1⟩ fun f _ b z1 z => ?_)⟩
    · cases z
      exact hn
    · cases z
      cases z1
      exact ⟨rfl, no⟩
end
end Dn
set_option maxHeartbeats 2000000
namespace Dn
open PySem PySem.Spec PyProof.Rows L2
section
variable {X : Cx} {e a : Expr} {pos p py : Pos} {x y : Str}
theorem dv (i : Nat) {x : Str} (hN : X.N[i]? = some x := by rfl) (hv : Vis X.env.scope x := by first | exact Or.inl rfl | exact Or.inr (Or.inl rfl) | exact Or.inr (Or.inr rfl)) (hd : (x == ("__debug__" : Str)) = false := by decide) (hcd : (x == ("__classdict__" : Str)) = false := by decide) : DE X (.Name x pos) (gVar i) := de_var i hN hv hd hcd
theorem dz (i : Nat) {x : Str} (hN : X.N[i]? = some x := by rfl) (hv : Vis X.env.scope x := by first | exact Or.inl rfl | exact Or.inr (Or.inl rfl) | exact Or.inr (Or.inr rfl)) (hd : (x == ("__debug__" : Str)) = false := by decide) (hcd : (x == ("__classdict__" : Str)) = false := by decide) : DE X (.Name x pos) (gFrz i) := de_frz i hN hv hd hcd
theorem in65 {k : Nat} {A : Around} (hr : Room k A) : A.units + 65 < cLine := by
  have := hr.un
  omega
theorem db_ix (i : Nat) {gi : Md D} (hi : DE X a gi) (hN : X.N[i]? = some y := by rfl) (hy : Vis X.env.scope y := by first | exact Or.inl rfl | exact Or.inr (Or.inl rfl) | exact Or.inr (Or.inr rfl)) (hs : PlainIx a := by intro _ _; rfl) (hdy : (y == ("__debug__" : Str)) = false := by decide) (hcd : (y == ("__classdict__" : Str)) = false := by decide) : DE X (.Subscript (.Name y py) a pos) (gIxB i gi) := de_ixB i hN hy hi hs hdy hcd
theorem db_io (i : Nat) {k n : Nat} {f : Addr} {fd : FuncData} {ps : List Str} {es : List Expr} {g : D → List D → Option (D × D)} {gs : Md (List D)} (G : FnOk X.prog X.w (cxK X) X.mg X.base CX0 k f fd ps (spIO (cxK X) (n + 1) g)) (hr : Room k X.A) (hg : Gl X x) (hm : X.mg x = some (.ref f)) (hk : PySem.W.keepIn (cxK X) (.ref f) = true) (hb : Binds (cxK X) fd ps [])
    (ha : DA X es gs) (hlen : ∀ ρ ds ρ', gs ρ = some (ds, ρ') → ds.length = n) (hN : X.N[i]? = some y := by rfl) (hv : Vis X.env.scope y := by first | exact Or.inl rfl | exact Or.inr (Or.inl rfl) | exact Or.inr (Or.inr rfl))
    (hdb : (x == ("__debug__" : Str)) = false := by decide) (hdy : (y == ("__debug__" : Str)) = false := by decide) (hcd : (y == ("__classdict__" : Str)) = false := by decide) (he : starEach (.Name y py :: es) X.env = (false, eval (.Name y py) X.env) :: starEach es X.env := by rfl) (hpl : (backTo pos (starEach es X.env)).any (·.1) = false := by rfl) : DE X (.Call (.Name x p) (.Name y py :: es) [] pos) (gCallIO i g gs) := de_callIO i G hr hg hm hk hb hN hv ha hlen hdb hdy hcd he hpl
theorem db_setIx (i : Nat) {tpos : Pos} {gv gi : Md D} (he : DE X e gv) (hi : DE X a gi) (hN : X.N[i]? = some y := by rfl) (hv : Vis X.env.scope y := by first | exact Or.inl rfl | exact Or.inr (Or.inl rfl) | exact Or.inr (Or.inr rfl)) (hdy : (y == ("__debug__" : Str)) = false := by decide) (hcd : (y == ("__classdict__" : Str)) = false := by decide)
    (ha : ∀ v, assign (.Subscript (.Name y py) a tpos) X.env v = (do let ov ← holding [v] (eval (.Name y py) X.env); let iv ← holding [v, ov] (eval a X.env); standAt tpos; holding [v, ov, iv] (setItem ov iv v); release [v, ov, iv] []) := by intro _; rfl)
    (hs : swapsWithSole [.Subscript (.Name y py) a tpos] e pos.line X.env = pure false := by rfl) (hw : swappedStores [.Subscript (.Name y py) a tpos] e X.env = pure none := by rfl) : DS X (.Assign [.Subscript (.Name y py) a tpos] e pos) (sSetIx i gv gi) := ds_setIx i hN hv he hi hdy hcd ha hs hw
end
theorem bb_len : bootBuiltins "len" = some (.builtin "len") := by decide +kernel
theorem bb_abs : bootBuiltins "abs" = some (.builtin "abs") := by decide +kernel
theorem bb_max : bootBuiltins "max" = some (.builtin "max") := by decide +kernel
theorem bb_min : bootBuiltins "min" = some (.builtin "min") := by decide +kernel
theorem bt_int : bootBuiltins "int" = some (.type "int") := by decide +kernel
theorem bt_bool : bootBuiltins "bool" = some (.type "bool") := by decide +kernel
theorem bt_list : bootBuiltins "list" = some (.type "list") := by decide +kernel
theorem bt_tuple : bootBuiltins "tuple" = some (.type "tuple") := by decide +kernel
end Dn
set_option maxHeartbeats 2000000
namespace Dn
open PySem PySem.Spec PyProof.Rows L2
section
variable {X : Cx} {tg e a b : Expr} {pos p py : Pos} {x y : Str}
theorem de_glob {n : Int} (hg : Gl X x) (h : ∃ t, X.mg x = some (.int n t)) (hd : (x == ("__debug__" : Str)) = false := by decide) : DE X (.Name x pos) (gC (.int n)) := by
  obtain ⟨t, ht⟩ := h
  exact de_const (t := tC .non) (v := .int n) (pe_glob hg ht ⟨t, rfl⟩ hd) fun _ => .int n
def mulT : D → D → Option D
  | .str x, .int n => if 0 ≤ n ∧ n ≤ 1000 ∧ x.length ≤ 1000 then some (.str (Txt.mul x n)) else none
  | _, _ => none
def ItU (K : PySem.W.Frag) (a : Addr) : It :=
  ⟨fun i H => ∃ (xs : List V) (x : V), SqT K H a xs ∧ xs[i]? = some x, fun i H v H' => ∃ T x, v = .ref T ∧ H T = none ∧ H' = upd H T (.tup [.int (i : Nat), x]) ∧ ∀ xs, SqT K H a xs → xs[i]? = some x, fun i H => ∃ xs : List V, SqT K H a xs ∧ xs.length ≤ i⟩
theorem turn_enumT {P : Program} {w : World} {K : PySem.W.Frag} {elts : List Expr} {kk : Nat} {tpos : Pos} (a e it : Addr) (hai : a ≠ it) (hae : a ≠ e) :
    Turn P w K (.Tuple elts kk tpos) (ItU K a) [e, it] e (fun i h => (∃ old, IsEnum h e it ((i : Nat) : Int) old) ∧ h.IsTupleIter it a i ∧ e ≠ it) where
  mem := by simp
  obj := fun i h st b hb => by
    obtain ⟨⟨old, he⟩, ⟨o, ho, hc, hd⟩, _⟩ := st
    have e' : b = e ∨ b = it := by simpa using hb
    rcases e' with z | z
    · rw [z]; exact ⟨_, he, fun v q => nomatch q⟩
    · rw [z]; exact ⟨o, ho, fun v q => by rw [hd] at q; cases q⟩
  keep := fun i h h' st k => let ⟨⟨old, he⟩, hi, hne⟩ := st; ⟨⟨old, k e (by simp) _ he⟩, hi.at fun o q => k it (by simp) o q, hne⟩
  item := by
    intro X hP hw hK hc i pins s σ H E I hf st hg
    subst hP hw hK
    obtain ⟨⟨old, he⟩, hit, hne⟩ := st
    obtain ⟨xs, x, hq, hx⟩ := hg
    obtain ⟨its, rv, p, hz⟩ := I.tuple hq
    obtain ⟨u, hu, ru⟩ := rv.get hx
    have p' : s.heap.IsTuple a its.toArray := p
    have hel : e < s.heap.objs.size := Heap.lt_size he
    have hil : it < s.heap.objs.size := by obtain ⟨_, q, _⟩ := hit; exact Heap.lt_size q
    refine wpAny_pyNext_enum_itemD (fp := [it, a]) (Draws.tuple (A := X.A.in1) (I.ok.hd hc) it a hai its.toArray) he ⟨hit, p'⟩ (by have := (List.getElem?_eq_some_iff.mp hu).1; simpa using this) hne (by simp [hne, Ne.symm hae]) fun x' h' tk hP ho st' hT hsz hk => ?_
    have ex : x' = u := by
      have h1 : its.toArray[i]? = some u := by simpa using hu
      exact Option.some.inj (hP.symm.trans h1)
    subst ex
    obtain ⟨hit', _⟩ := st'
    refine ⟨_, rfl, wpAny_letOwnedTupleGo_enum (s := { s with heap := h', toks := tk + 1 }) ho fun h'' he' sb => ?_⟩
    have hT2 : h''.get? s.heap.objs.size = some { cls := .type "tuple", data := .seq #[.int i tk, x'] } := (sb.2 _ (Nat.ne_of_gt hel)).trans hT
    have new : ObjOk X.prog X.w (upd H s.heap.objs.size (.tup [.int (i : Nat), x])) h'' s.heap.objs.size (.tup [.int (i : Nat), x]) :=
      ⟨by show 2 ≤ sizeLine; decide, [.int i tk, x'], .cons ⟨_, rfl⟩ (.cons ru .nil), ⟨_, hT2, rfl, _, rfl⟩⟩
    have I1 : Inv X pins σ (upd H s.heap.objs.size (.tup [.int (i : Nat), x])) { s with heap := h'', toks := tk + 1 } :=
      I.turnedNew (ch := [e, it]) (fun b ob hb q => (sb.2 b (fun z => hb (by simp [z]))).trans (hk b ob (fun z => hb (by simp [z])) (fun z => hb (by simp [z])) q)) hf (Nat.le_refl _) new
    refine ⟨.ref s.heap.objs.size, _, I1, rfl, ⟨_, x, rfl, I.hok.fresh (Nat.le_refl _), rfl, fun ys hy => by rw [I.tuple_inj hy hq]; exact hx⟩, ⟨⟨x', ?_⟩, hit'.at fun o q => (sb.2 it (Ne.symm hne)).trans q, hne⟩, fun b hb => ?_⟩
    · have e1 : ((i + 1 : Nat) : Int) = (i : Int) + 1 := by omega
      rw [e1]; exact he'
    · have hb' : b < s.heap.objs.size := by
        have e' : b = e ∨ b = it := by simpa using hb
        rcases e' with z | z
        · rw [z]; exact hel
        · rw [z]; exact hil
      rw [upd_ne (Nat.ne_of_lt hb')]
      exact (hf b hb).1
  done := by
    intro X hP hw hK hc i pins s σ H E I hf st hg
    subst hP hw hK
    obtain ⟨⟨old, he⟩, hit, hne⟩ := st
    obtain ⟨xs, hq, hx⟩ := hg
    obtain ⟨its, rv, p, hz⟩ := I.tuple hq
    obtain ⟨f0, f1, f2, f3, f4, f5⟩ := hf it (by simp)
    have hl := rv.length
    have p' : s.heap.IsTuple a its.toArray := p
    have D : Draws X.prog X.w X.A.in1 it [it, a] i (fun _ _ => True) (fun j h => j = i ∧ h.IsTupleIter it a i ∧ h.IsTuple a its.toArray) :=
      { live := fun _ _ st => let ⟨o, ho, _⟩ := st.2.1; ⟨o, ho⟩
        frame := fun _ _ _ st hk => ⟨st.1, st.2.1.at fun o e => hk it (by simp) o e, st.2.2.at fun o e => hk a (by simp) o e⟩
        item := fun j s Q E hi st hQ => absurd st.1 (by omega)
        done := fun s Q E st hE => wpAny_nextOf_tuple_end (I.ok.hd hc) st.2.1 st.2.2 (by simp; omega) hE }
    exact wpAny_pyNext_enum_endD (n := i) D he ⟨rfl, hit, p'⟩ fun h' eb => ⟨rfl, I.turned (t' := s.toks) (fun b o hb q => eb b o hb q) f0 f1 f3 f4 f5⟩
  self := fun A i s Q E st h => let ⟨⟨_, he⟩, _⟩ := st; wpAny_pyIter_enum he h
section
variable {prog : Program} {w : World} {A : Around} {E : Value → Shared → Prop} {s : Shared}
theorem meets_enumerate_newT (l : Addr) (items : Array Value) :
    Meets (Builtin.«enumerate.__new__» ⟨[.type "enumerate", .ref l], []⟩) (fun _ R s => s.heap.IsTuple l items ∧
      R (.ok (.ret (.ref (s.heap.push { cls := .type "tuple_iterator", data := .fields #[.ref l, .int 0 0] }).objs.size)))
        { s with heap := (s.heap.push { cls := .type "tuple_iterator", data := .fields #[.ref l, .int 0 0] }).push { cls := .type "enumerate", data := .fields #[.none, .bool false, .ref s.heap.objs.size, rawInt 0, .none, .none] } }) :=
  .of_wp fun prog w A R s h => by
    obtain ⟨hp, g, d, tk, os⟩ := s; obtain ⟨hL, h⟩ := h
    have hsub := sub_enumerate
    obtain ⟨o, hl, hc, hd⟩ := id hL
    wp_walk using AutoSeq1.wpAny_loadPart' hl
    refine wpAny_stack_any fun st => wpAny_pure ?_
    split
    · rename_i c _ _ _ _ _
      cases (c == Value.type "enumerate")
      · wp_walk using AutoSeq1.wpAny_loadPart' hl, wpAny_pyIter_tuple hL
        exact ⟨_, rfl, h⟩
      · wp_walk using AutoSeq1.wpAny_loadPart' hl, wpAny_pyIter_tuple hL
        exact ⟨_, rfl, h⟩
    · wp_walk using AutoSeq1.wpAny_loadPart' hl, wpAny_pyIter_tuple hL
      exact ⟨_, rfl, h⟩
theorem call_enumerate_tuple {l : Addr} {items : Array Value} {Q : Value → Shared → Prop} (hL : s.heap.IsTuple l items)
    (h : ∀ h', IsEnum h' (s.heap.objs.size + 1) s.heap.objs.size 0 .none → h'.IsTupleIter s.heap.objs.size l 0 → h'.objs.size = s.heap.objs.size + 2 →
      (∀ b o, s.heap.get? b = some o → h'.get? b = some o) → Q (.ref (s.heap.objs.size + 1)) { s with heap := h' }) :
    wpAny (model prog w) A (call (.type "enumerate") [.ref l]) Q E s := by
  refine callType_new PySem.F.called_enumerate (by decide) (PySem.F.typeCall_enumerate_1 _) (PySem.F.newCall_enumerate_1 _) (fun obj => PySem.F.args_object_init_2 obj _) PySem.F.entry_enumerate_new
    (meets_enumerate_newT l items) ⟨hL, ?_⟩
  have hz : (s.heap.push { cls := .type "tuple_iterator", data := .fields #[.ref l, .int 0 0] }).objs.size = s.heap.objs.size + 1 := Heap.size_push ..
  show _ ∧ _
  rw [hz]
  have he : IsEnum ((s.heap.push { cls := .type "tuple_iterator", data := .fields #[.ref l, .int 0 0] }).push
      { cls := .type "enumerate", data := .fields #[.none, .bool false, .ref s.heap.objs.size, rawInt 0, .none, .none] }) (s.heap.objs.size + 1) s.heap.objs.size 0 .none := by
    have := Heap.get?_push_size (s.heap.push { cls := .type "tuple_iterator", data := .fields #[.ref l, .int 0 0] })
      (o := { cls := .type "enumerate", data := .fields #[.none, .bool false, .ref s.heap.objs.size, rawInt 0, .none, .none] }) rfl
    rw [hz] at this; exact this
  refine ⟨⟨_, he, rfl⟩, h _ he ⟨_, Heap.get?_push_of_some _ (Heap.get?_push_size _ rfl), rfl, rfl⟩ (by rw [Heap.size_push, hz]) fun b o x => Heap.get?_push_of_some _ (Heap.get?_push_of_some _ x)⟩
end
def iEnumA (K : PySem.W.Frag) (ta : TA) : TI := fun σ H R => ta σ H fun vs H1 => ∃ a xs, vs = [.ref a] ∧ ((SqL K H1 a xs ∧ R (Ite K a) H1) ∨ (SqT K H1 a xs ∧ R (ItU K a) H1))
theorem pi_enumA {ta : TA} {tpos : Pos} {elts : List Expr} {kk : Nat} (hg : Gl X "enumerate") (hm : X.mg "enumerate" = none) (ha : PA X [e] ta) (hs : starEach [e] X.env = [(false, eval e X.env)] := by rfl) :
    PI X (.Tuple elts kk tpos) (.Call (.Name "enumerate" p) [e] [] pos) (iEnumA X.K ta) := by
  refine ⟨fun pins s σ H R I h => ?_⟩
  refine Call_ (ld_blt I hg hm boot_enumerate (PyProof.Rows.callWith_type1 (thn (ha.run pos pins s σ H _ I h) fun us s1 ⟨vs, H1, I1, r1, q1⟩ => ?_) hs rfl))
  obtain ⟨a, xs, ex, q⟩ := q1
  subst ex
  cases r1 with
  | cons r rr =>
    cases rr
    cases r
    have fps : ∀ b ∈ [s1.heap.objs.size + 1, s1.heap.objs.size], FpOk X pins H1 b := fun b hb => by
      have e' : b = s1.heap.objs.size + 1 ∨ b = s1.heap.objs.size := by simpa using hb
      have hle : s1.heap.objs.size ≤ b := by
        rcases e' with z | z
        · rw [z]; exact Nat.le_add_right _ _
        · rw [z]; exact Nat.le_refl _
      exact I1.fpOk hle (I1.hok.fresh hle)
    rcases q with ⟨hq, q⟩ | ⟨hq, q⟩
    · obtain ⟨its, rv, p', hz⟩ := I1.list hq
      refine call_enumerate_list p'.isList fun h' he hit hsz hk => wpAny_pyIter_enum he ?_
      have I2 : Inv X pins σ H1 { s1 with heap := h' } := I1.kept (t' := s1.toks) hk
      exact ⟨s1.heap.objs.size + 1, [s1.heap.objs.size + 1, s1.heap.objs.size], _, _, H1, rfl, I2, turn_enum a (s1.heap.objs.size + 1) s1.heap.objs.size, ⟨⟨.none, he⟩, hit, Nat.succ_ne_self _⟩, fps, q⟩
    · obtain ⟨its, rv, p', hz⟩ := I1.tuple hq
      have p2 : s1.heap.IsTuple a its.toArray := p'
      have hal : a < s1.heap.objs.size := by obtain ⟨_, q, _⟩ := p2; exact Heap.lt_size q
      refine call_enumerate_tuple p2 fun h' he hit hsz hk => wpAny_pyIter_enum he ?_
      have I2 : Inv X pins σ H1 { s1 with heap := h' } := I1.kept (t' := s1.toks) hk
      exact ⟨s1.heap.objs.size + 1, [s1.heap.objs.size + 1, s1.heap.objs.size], _, _, H1, rfl, I2, turn_enumT a (s1.heap.objs.size + 1) s1.heap.objs.size (Nat.ne_of_lt hal) (Nat.ne_of_lt (Nat.lt_succ_of_lt hal)), ⟨⟨.none, he⟩, hit, Nat.succ_ne_self _⟩, fps, q⟩
def enumL : Nat → List D → List D
  | _, [] => []
  | i, d :: ds => .tuple [.int i, d] :: enumL (i + 1) ds
theorem enumL_len : ∀ (i : Nat) (ds : List D), (enumL i ds).length = ds.length
  | _, [] => rfl
  | i, d :: ds => congrArg (· + 1) (enumL_len (i + 1) ds)
theorem enumL_get : ∀ (i j : Nat) (ds : List D), (enumL i ds)[j]? = ds[j]?.map fun d => .tuple [.int (i + j : Nat), d]
  | _, _, [] => rfl
  | i, 0, d :: ds => rfl
  | i, j + 1, d :: ds => by
    have e := enumL_get (i + 1) j ds
    have e2 : i + 1 + j = i + (j + 1) := by omega
    rw [e2] at e
    exact e
def enumOf (ds : List D) : Option (List D) := match ds with
  | [.list xs] => some (enumL 0 xs)
  | [.tuple xs] => some (enumL 0 xs)
  | _ => none
def gEnum (gs : Md (List D)) : Md (List D) := fun ρ => (gs ρ).bind fun p => (enumOf p.1).bind fun ds => some (ds, p.2)
theorem it_enum {K : Kx} {F : Hp} {a : Addr} {vs : List V} {ds : List D} (h : SqL K F a vs) (r : RpAll K F vs ds) : ItOk K F (Ite K a) (enumL 0 ds) := fun F1 H s1 s2 i => by
  have hH := (s1.trans s2).seq h
  refine ⟨fun d e => ?_, fun hl => ⟨vs, hH, by rw [da_len r, ← enumL_len 0]; exact hl⟩⟩
  rw [enumL_get] at e
  obtain ⟨d0, e0, ed⟩ := Option.map_eq_some_iff.mp e
  subst ed
  obtain ⟨v, e1, rv⟩ := da_at r e0
  refine ⟨⟨vs, v, hH, e1⟩, fun y H' hy => ?_⟩
  obtain ⟨T, x, rfl, hT, rfl, hy⟩ := hy
  have e2 := (hy vs hH).symm.trans e1
  cases e2
  have gr : Grow F1 H (upd F1 T (.tup [.int (i : Nat), v])) (upd H T (.tup [.int (i : Nat), v])) := Grow.val s2 hT
  refine ⟨_, gr, .tup (.inl (.inl upd_same)) (.cons ?_ (.cons (dp_mono (s1.trans gr.ff) _ _ rv) .nil))⟩
  rw [Nat.zero_add]
  exact .int _
theorem it_enumT {K : Kx} {F : Hp} {a : Addr} {vs : List V} {ds : List D} (h : SqT K F a vs) (r : RpAll K F vs ds) : ItOk K F (ItU K a) (enumL 0 ds) := fun F1 H s1 s2 i => by
  have hH := seqT_same (s1.trans s2) h
  refine ⟨fun d e => ?_, fun hl => ⟨vs, hH, by rw [da_len r, ← enumL_len 0]; exact hl⟩⟩
  rw [enumL_get] at e
  obtain ⟨d0, e0, ed⟩ := Option.map_eq_some_iff.mp e
  subst ed
  obtain ⟨v, e1, rv⟩ := da_at r e0
  refine ⟨⟨vs, v, hH, e1⟩, fun y H' hy => ?_⟩
  obtain ⟨T, x, rfl, hT, rfl, hy⟩ := hy
  have e2 := (hy vs hH).symm.trans e1
  cases e2
  have gr : Grow F1 H (upd F1 T (.tup [.int (i : Nat), v])) (upd H T (.tup [.int (i : Nat), v])) := Grow.val s2 hT
  refine ⟨_, gr, .tup (.inl (.inl upd_same)) (.cons ?_ (.cons (dp_mono (s1.trans gr.ff) _ _ rv) .nil))⟩
  rw [Nat.zero_add]
  exact .int _
theorem di_enum {gs : Md (List D)} {tpos : Pos} {elts : List Expr} {kk : Nat} (hg : Gl X "enumerate") (hm : X.mg "enumerate" = none) (ha : DA X [e] gs) (hs : starEach [e] X.env = [(false, eval e X.env)] := by rfl) :
    DI X (.Tuple elts kk tpos) (.Call (.Name "enumerate" p) [e] [] pos) (gEnum gs) :=
  pi_imp (pi_enumA hg hm ha hs) fun σ H R q => by
    obtain ⟨F, ρ, ds, ρ', s, eg, k⟩ := q
    obtain ⟨⟨d, ρ1⟩, e1, eg1⟩ := bind_some eg
    obtain ⟨z, e2, eg2⟩ := bind_some eg1
    cases eg2
    refine ⟨F, ρ, d, _, s, e1, fun vs F1 H1 p1 s1 r1 => ?_⟩
    simp only at e2
    unfold enumOf at e2
    split at e2
    · cases e2
      obtain ⟨v, rfl, rv⟩ := da1 r1
      cases rv with
      | @lst a vs _ h1 d1 => exact ⟨a, vs, rfl, .inl ⟨s1.sub.seq h1, k _ F1 H1 p1 s1 (it_enum h1 d1)⟩⟩
    · cases e2
      obtain ⟨v, rfl, rv⟩ := da1 r1
      cases rv with
      | @tup a vs _ h1 d1 => exact ⟨a, vs, rfl, .inr ⟨seqT_same s1.sub h1, k _ F1 H1 p1 s1 (it_enumT h1 d1)⟩⟩
    · cases e2
def keyOf : D → Option Key
  | .int i => some (.inl i)
  | .str x => some (.inr x)
  | _ => none
def gKV : List (Md D × Md D) → Md (List (D × D))
  | [] => fun ρ => some ([], ρ)
  | (gk, gv) :: r => fun ρ => (gk ρ).bind fun p => (gv p.2).bind fun q => (gKV r q.2).bind fun z => some ((p.1, q.1) :: z.1, z.2)
def keysOk (es : List (D × D)) : Bool := es.all (fun p => (keyOf p.1).isSome) && decide ((es.map fun p => keyOf p.1).Nodup) && decide (es.length ≤ 15)
def gDic (gs : List (Md D × Md D)) : Md D := fun ρ => (gKV gs ρ).bind fun p => if keysOk p.1 = true then some (.dict p.1, p.2) else none
/-- what stands in a dict just made stands for good -/
theorem pe_frzD {e : Expr} {t : TE} (h : PE X e t) : PE X e (fun σ H Q => t σ H fun v H1 => ∃ (a : Addr) (kvs : List (Key × V)), v = .ref a ∧ H1 a = some (.dK kvs) ∧ ∀ od, Q v (upd H1 a (.frz od (.dK kvs)))) := by
  refine ⟨fun pins s σ H Q I q => ?_⟩
  refine wpAny_mono (h.run pins s σ H _ I q) (fun u s1 hu => ?_) fun _ _ z => z
  obtain ⟨v, H1, I1, r1, a, kvs, rfl, ha, q1⟩ := hu
  obtain ⟨od, J⟩ := I1.lock ha trivial
  exact ⟨_, _, J, r1, q1 od⟩
theorem upd_upd {H : Hp} {a : Addr} {o u : HO} : upd (upd H a o) a u = upd H a u := by
  funext b
  by_cases z : b = a
  · subst z
    rw [upd_same, upd_same]
  · rw [upd_ne z, upd_ne z, upd_ne z]
theorem de_dicE : DE X (.Dict [] [] pos) (gC (.dict [(.none, .none)])) :=
  pe_imp (pe_frzD pe_dnewK) fun σ H Q q => by
    obtain ⟨F, ρ, d, ρ', s, eg, k⟩ := q
    cases eg
    refine fun p hp => ⟨p, [], rfl, upd_same, fun od => ?_⟩
    rw [upd_upd]
    have gr : Grow F H (upd F p (.frz od (.dK []))) (upd H p (.frz od (.dK []))) := Grow.val s.sub hp
    exact k _ _ _ (gr.stp σ ρ) (s.grow gr) (.dicE upd_same)
end
end Dn
set_option maxHeartbeats 2000000
namespace DnSo
open PySem PySem.SeqAt PyProof.Rows PySem.W SrtO DnLt
def rk3 : PyData → Nat
  | .none => 0
  | .bool _ => 1
  | .int _ => 2
  | .str _ => 3
  | .tuple _ => 4
  | .list _ => 5
  | .dict _ => 6
mutual
def cmp3 : PyData → PyData → Ordering
  | .int i, .int j => if i < j then .lt else if j < i then .gt else .eq
  | .str a, .str b => if a.cps.toList < b.cps.toList then .lt else if b.cps.toList < a.cps.toList then .gt else .eq
  | .tuple xs, .tuple ys => cmpL xs ys
  | d, e => if rk3 d < rk3 e then .lt else if rk3 e < rk3 d then .gt else .eq
def cmpL : List PyData → List PyData → Ordering
  | [], [] => .eq
  | [], _ :: _ => .lt
  | _ :: _, [] => .gt
  | x :: xs, y :: ys => (cmp3 x y).then (cmpL xs ys)
end
theorem cmp3_rk {d e : PyData} (h : rk3 d ≠ rk3 e) : cmp3 d e = if rk3 d < rk3 e then .lt else .gt := by
  have hl : ¬ rk3 d < rk3 e → rk3 e < rk3 d := by omega
  cases d <;> cases e <;> first | (exfalso; exact h rfl) | (simp [cmp3, rk3])
theorem lst_tri (a b : List Nat) : a < b ∨ a = b ∨ b < a := by
  by_cases h : a < b
  · exact .inl h
  · by_cases h2 : b < a
    · exact .inr (.inr h2)
    · exact .inr (.inl (List.le_antisymm (List.not_lt.mp h2) (List.not_lt.mp h)))
theorem rk_le {d e : PyData} (h : cmp3 d e ≠ .gt) : rk3 d ≤ rk3 e := by
  by_cases q : rk3 d = rk3 e
  · omega
  · rw [cmp3_rk q] at h
    by_cases a : rk3 d < rk3 e
    · omega
    · simp [a] at h
theorem rk_lt {d e : PyData} (h : rk3 d < rk3 e) : cmp3 d e = .lt := by
  rw [cmp3_rk (by omega), if_pos h]
theorem swap_rk {d e : PyData} (h : rk3 d ≠ rk3 e) : cmp3 e d = (cmp3 d e).swap := by
  rw [cmp3_rk h, cmp3_rk (Ne.symm h)]
  by_cases a : rk3 d < rk3 e
  · rw [if_pos a, if_neg (by omega)]
    rfl
  · rw [if_neg a, if_pos (by omega)]
    rfl
theorem trans_rk {d e f : PyData} (h : ¬ (rk3 d = rk3 e ∧ rk3 e = rk3 f)) (h1 : cmp3 d e ≠ .gt) (h2 : cmp3 e f ≠ .gt) : cmp3 d f = (cmp3 d e).then (cmp3 e f) := by
  have a := rk_le h1
  have b := rk_le h2
  rw [rk_lt (show rk3 d < rk3 f by omega)]
  by_cases q : rk3 d < rk3 e
  · rw [rk_lt q]
    rfl
  · rw [rk_lt (show rk3 e < rk3 f by omega)]
    cases hc : cmp3 d e with
    | lt => rfl
    | eq => rfl
    | gt => exact absurd hc h1
theorem trans_int {i j k : Int} (h1 : cmp3 (.int i) (.int j) ≠ .gt) (h2 : cmp3 (.int j) (.int k) ≠ .gt) : cmp3 (.int i) (.int k) = (cmp3 (.int i) (.int j)).then (cmp3 (.int j) (.int k)) := by
  simp only [cmp3] at h1 h2 ⊢
  have e1 : ¬ j < i := fun z => by
    rw [if_neg (show ¬ i < j by omega), if_pos z] at h1
    exact h1 rfl
  have e2 : ¬ k < j := fun z => by
    rw [if_neg (show ¬ j < k by omega), if_pos z] at h2
    exact h2 rfl
  by_cases a : i < j
  · rw [if_pos a, if_pos (show i < k by omega)]
    rfl
  · have : i = j := by omega
    subst this
    rw [if_neg a, if_neg a]
    rfl
theorem trans_str {i j k : Str} (h1 : cmp3 (.str i) (.str j) ≠ .gt) (h2 : cmp3 (.str j) (.str k) ≠ .gt) : cmp3 (.str i) (.str k) = (cmp3 (.str i) (.str j)).then (cmp3 (.str j) (.str k)) := by
  simp only [cmp3] at h1 h2 ⊢
  generalize i.cps.toList = i at h1 ⊢
  generalize k.cps.toList = k at h2 ⊢
  generalize j.cps.toList = j at h1 h2 ⊢
  have e1 : ¬ j < i := fun z => by
    rw [if_neg (fun y => List.lt_asymm y z), if_pos z] at h1
    exact h1 rfl
  have e2 : ¬ k < j := fun z => by
    rw [if_neg (fun y => List.lt_asymm y z), if_pos z] at h2
    exact h2 rfl
  by_cases a : i < j
  · have b : i < k := by
      rcases lst_tri j k with h | h | h
      · exact List.lt_trans a h
      · exact h ▸ a
      · exact absurd h e2
    rw [if_pos a, if_pos b]
    rfl
  · have : i = j := List.le_antisymm (List.not_lt.mp e1) (List.not_lt.mp a)
    subst this
    rw [if_neg a, if_neg a]
    rfl
mutual
theorem trans3 : ∀ (d e f : PyData), cmp3 d e ≠ .gt → cmp3 e f ≠ .gt → cmp3 d f = (cmp3 d e).then (cmp3 e f)
  | .tuple xs, e, f, h1, h2 => by
    by_cases q : rk3 (.tuple xs) = rk3 e ∧ rk3 e = rk3 f
    · obtain ⟨q1, q2⟩ := q
      cases e <;> simp only [rk3, reduceCtorEq, Nat.reduceEqDiff] at q1
      cases f <;> simp only [rk3, reduceCtorEq, Nat.reduceEqDiff] at q2
      simp only [cmp3] at h1 h2 ⊢
      exact transL xs _ _ h1 h2
    · exact trans_rk q h1 h2
  | .int i, e, f, h1, h2 => by
    by_cases q : rk3 (.int i) = rk3 e ∧ rk3 e = rk3 f
    · obtain ⟨q1, q2⟩ := q
      cases e <;> simp only [rk3, reduceCtorEq, Nat.reduceEqDiff] at q1
      cases f <;> simp only [rk3, reduceCtorEq, Nat.reduceEqDiff] at q2
      exact trans_int h1 h2
    · exact trans_rk q h1 h2
  | .str i, e, f, h1, h2 => by
    by_cases q : rk3 (.str i) = rk3 e ∧ rk3 e = rk3 f
    · obtain ⟨q1, q2⟩ := q
      cases e <;> simp only [rk3, reduceCtorEq, Nat.reduceEqDiff] at q1
      cases f <;> simp only [rk3, reduceCtorEq, Nat.reduceEqDiff] at q2
      exact trans_str h1 h2
    · exact trans_rk q h1 h2
  | .none, e, f, h1, h2 => by
    by_cases q : rk3 .none = rk3 e ∧ rk3 e = rk3 f
    · obtain ⟨q1, q2⟩ := q
      cases e <;> simp only [rk3, reduceCtorEq, Nat.reduceEqDiff] at q1
      cases f <;> simp only [rk3, reduceCtorEq, Nat.reduceEqDiff] at q2
      simp [cmp3, rk3]
    · exact trans_rk q h1 h2
  | .bool i, e, f, h1, h2 => by
    by_cases q : rk3 (.bool i) = rk3 e ∧ rk3 e = rk3 f
    · obtain ⟨q1, q2⟩ := q
      cases e <;> simp only [rk3, reduceCtorEq, Nat.reduceEqDiff] at q1
      cases f <;> simp only [rk3, reduceCtorEq, Nat.reduceEqDiff] at q2
      simp [cmp3, rk3]
    · exact trans_rk q h1 h2
  | .list i, e, f, h1, h2 => by
    by_cases q : rk3 (.list i) = rk3 e ∧ rk3 e = rk3 f
    · obtain ⟨q1, q2⟩ := q
      cases e <;> simp only [rk3, reduceCtorEq, Nat.reduceEqDiff] at q1
      cases f <;> simp only [rk3, reduceCtorEq, Nat.reduceEqDiff] at q2
      simp [cmp3, rk3]
    · exact trans_rk q h1 h2
  | .dict i, e, f, h1, h2 => by
    by_cases q : rk3 (.dict i) = rk3 e ∧ rk3 e = rk3 f
    · obtain ⟨q1, q2⟩ := q
      cases e <;> simp only [rk3, reduceCtorEq, Nat.reduceEqDiff] at q1
      cases f <;> simp only [rk3, reduceCtorEq, Nat.reduceEqDiff] at q2
      simp [cmp3, rk3]
    · exact trans_rk q h1 h2
theorem transL : ∀ (xs ys zs : List PyData), cmpL xs ys ≠ .gt → cmpL ys zs ≠ .gt → cmpL xs zs = (cmpL xs ys).then (cmpL ys zs)
  | [], [], zs, _, _ => by cases zs <;> rfl
  | [], _ :: _, [], _, h2 => absurd rfl h2
  | [], _ :: _, _ :: _, _, _ => rfl
  | _ :: _, [], _, h1, _ => absurd rfl h1
  | _ :: _, _ :: _, [], _, h2 => absurd rfl h2
  | x :: xs, y :: ys, z :: zs, h1, h2 => by
    simp only [cmpL] at h1 h2 ⊢
    have g1 : cmp3 x y ≠ .gt := fun q => by rw [q] at h1; exact h1 rfl
    have g2 : cmp3 y z ≠ .gt := fun q => by rw [q] at h2; exact h2 rfl
    rw [trans3 x y z g1 g2]
    cases q1 : cmp3 x y with
    | gt => exact absurd q1 g1
    | lt => rfl
    | eq =>
      cases q2 : cmp3 y z with
      | gt => exact absurd q2 g2
      | lt =>
        rw [q1] at h1
        cases q3 : cmpL xs ys with
        | gt => rw [q3] at h1; exact absurd rfl h1
        | lt => rfl
        | eq => rfl
      | eq =>
        rw [q1] at h1
        rw [q2] at h2
        exact transL xs ys zs h1 h2
end
mutual
theorem swap3 : ∀ (d e : PyData), cmp3 e d = (cmp3 d e).swap
  | .tuple xs, e => by
    by_cases q : rk3 (.tuple xs) = rk3 e
    · cases e <;> simp only [rk3, reduceCtorEq, Nat.reduceEqDiff] at q
      simp only [cmp3]
      exact swapL xs _
    · exact swap_rk q
  | .int i, e => by
    by_cases q : rk3 (.int i) = rk3 e
    · cases e <;> simp only [rk3, reduceCtorEq, Nat.reduceEqDiff] at q
      rename_i j
      simp only [cmp3]
      by_cases a : i < j
      · rw [if_pos a, if_neg (by omega), if_pos a]
        rfl
      · by_cases b : j < i
        · rw [if_pos b, if_neg a, if_pos b]
          rfl
        · rw [if_neg b, if_neg a, if_neg a, if_neg b]
          rfl
    · exact swap_rk q
  | .str i, e => by
    by_cases q : rk3 (.str i) = rk3 e
    · cases e <;> simp only [rk3, reduceCtorEq, Nat.reduceEqDiff] at q
      rename_i j
      simp only [cmp3]
      by_cases a : i.cps.toList < j.cps.toList
      · rw [if_pos a, if_neg (fun z => List.lt_asymm a z), if_pos a]
        rfl
      · by_cases b : j.cps.toList < i.cps.toList
        · rw [if_pos b, if_neg a, if_pos b]
          rfl
        · rw [if_neg b, if_neg a, if_neg a, if_neg b]
          rfl
    · exact swap_rk q
  | .none, e => by
    by_cases q : rk3 .none = rk3 e
    · cases e <;> simp only [rk3, reduceCtorEq, Nat.reduceEqDiff] at q
      simp [cmp3, rk3]
    · exact swap_rk q
  | .bool i, e => by
    by_cases q : rk3 (.bool i) = rk3 e
    · cases e <;> simp only [rk3, reduceCtorEq, Nat.reduceEqDiff] at q
      simp [cmp3, rk3]
    · exact swap_rk q
  | .list i, e => by
    by_cases q : rk3 (.list i) = rk3 e
    · cases e <;> simp only [rk3, reduceCtorEq, Nat.reduceEqDiff] at q
      simp [cmp3, rk3]
    · exact swap_rk q
  | .dict i, e => by
    by_cases q : rk3 (.dict i) = rk3 e
    · cases e <;> simp only [rk3, reduceCtorEq, Nat.reduceEqDiff] at q
      simp [cmp3, rk3]
    · exact swap_rk q
theorem swapL : ∀ (xs ys : List PyData), cmpL ys xs = (cmpL xs ys).swap
  | [], [] => rfl
  | [], _ :: _ => rfl
  | _ :: _, [] => rfl
  | x :: xs, y :: ys => by
    simp only [cmpL]
    rw [swap3 x y, swapL xs ys]
    cases cmp3 x y <;> rfl
end
theorem swo3 : Swo (fun d e : PyData => cmp3 d e == .lt) := by
  refine ⟨fun x y h => ?_, fun x y z h1 h2 => ?_⟩
  · have e : cmp3 x y = .lt := by simpa using h
    rw [swap3 x y, e]
    rfl
  · have a1 : cmp3 x y ≠ .gt := fun q => by
      rw [swap3 x y, q] at h1
      exact absurd h1 (by decide)
    have a2 : cmp3 y z ≠ .gt := fun q => by
      rw [swap3 y z, q] at h2
      exact absurd h2 (by decide)
    have a3 := trans3 x y z a1 a2
    rw [swap3 x z, a3]
    cases q1 : cmp3 x y with
    | gt => exact absurd q1 a1
    | lt => rfl
    | eq =>
      cases q2 : cmp3 y z with
      | gt => exact absurd q2 a2
      | lt => rfl
      | eq => rfl
mutual
def ord0 : PyData → Bool
  | .int _ => true
  | .str _ => true
  | .tuple xs => ordL xs
  | _ => false
def ordL : List PyData → Bool
  | [] => true
  | x :: xs => ord0 x && ordL xs
end
mutual
theorem eq_of_cmp : ∀ (d e : PyData), ord0 d = true → ord0 e = true → cmp3 d e = .eq → d = e
  | .tuple xs, e, h1, h2, h => by
    cases e <;> simp only [ord0, Bool.false_eq_true] at h2
    · simp [cmp3, rk3] at h
    · simp [cmp3, rk3] at h
    · simp only [cmp3] at h
      rw [eqL_of_cmp xs _ (by simpa [ord0] using h1) h2 h]
  | .int i, e, h1, h2, h => by
    cases e <;> simp only [ord0, Bool.false_eq_true] at h2
    · simp only [cmp3] at h
      rename_i j
      by_cases a : i < j
      · simp [a] at h
      · by_cases b : j < i
        · simp [a, b] at h
        · rw [show i = j by omega]
    · simp [cmp3, rk3] at h
    · simp [cmp3, rk3] at h
  | .str i, e, h1, h2, h => by
    cases e <;> simp only [ord0, Bool.false_eq_true] at h2
    · simp [cmp3, rk3] at h
    · simp only [cmp3] at h
      rename_i j
      by_cases a : i.cps.toList < j.cps.toList
      · simp [a] at h
      · by_cases b : j.cps.toList < i.cps.toList
        · simp [a, b] at h
        · rw [PySem.W.str_of_cps (List.le_antisymm (List.not_lt.mp b) (List.not_lt.mp a))]
    · simp [cmp3, rk3] at h
  | .none, _, h, _, _ => by cases h
  | .bool _, _, h, _, _ => by cases h
  | .list _, _, h, _, _ => by cases h
  | .dict _, _, h, _, _ => by cases h
theorem eqL_of_cmp : ∀ (xs ys : List PyData), ordL xs = true → ordL ys = true → cmpL xs ys = .eq → xs = ys
  | [], [], _, _, _ => rfl
  | [], _ :: _, _, _, h => by cases h
  | _ :: _, [], _, _, h => by cases h
  | x :: xs, y :: ys, h1, h2, h => by
    simp only [ordL, Bool.and_eq_true] at h1 h2
    simp only [cmpL] at h
    cases q : cmp3 x y with
    | lt => rw [q] at h; cases h
    | gt => rw [q] at h; cases h
    | eq =>
      rw [q] at h
      rw [eq_of_cmp x y h1.1 h2.1 q, eqL_of_cmp xs ys h1.2 h2.2 h]
end
theorem cmp_self (d : PyData) : cmp3 d d = .eq := by
  have h := swap3 d d
  cases q : cmp3 d d with
  | eq => rfl
  | lt => rw [q] at h; cases h
  | gt => rw [q] at h; cases h
mutual
theorem eq_of_eqv : ∀ (d e : PyData), ord0 d = true → ord0 e = true → PyData.eqv d e = true → d = e
  | .tuple xs, e, h1, h2, h => by
    cases e <;> simp only [ord0, Bool.false_eq_true] at h2
    · simp [PyData.eqv] at h
    · simp [PyData.eqv] at h
    · simp only [PyData.eqv] at h
      rw [eqL_of_eqv xs _ (by simpa [ord0] using h1) h2 h]
  | .int i, e, h1, h2, h => by
    cases e <;> simp only [ord0, Bool.false_eq_true] at h2
    · simp [PyData.eqv] at h
      rw [h]
    · simp [PyData.eqv] at h
    · simp [PyData.eqv] at h
  | .str i, e, h1, h2, h => by
    cases e <;> simp only [ord0, Bool.false_eq_true] at h2
    · simp [PyData.eqv] at h
    · simp [PyData.eqv] at h
      rw [h]
    · simp [PyData.eqv] at h
  | .none, _, h, _, _ => by cases h
  | .bool _, _, h, _, _ => by cases h
  | .list _, _, h, _, _ => by cases h
  | .dict _, _, h, _, _ => by cases h
theorem eqL_of_eqv : ∀ (xs ys : List PyData), ordL xs = true → ordL ys = true → PyData.eqvAll xs ys = true → xs = ys
  | [], [], _, _, _ => rfl
  | [], _ :: _, _, _, h => by simp [PyData.eqvAll] at h
  | _ :: _, [], _, _, h => by simp [PyData.eqvAll] at h
  | x :: xs, y :: ys, h1, h2, h => by
    simp only [ordL, Bool.and_eq_true] at h1 h2
    simp only [PyData.eqvAll, Bool.and_eq_true] at h
    rw [eq_of_eqv x y h1.1 h2.1 h.1, eqL_of_eqv xs ys h1.2 h2.2 h.2]
end
mutual
theorem eqv_self : ∀ (d : PyData), ord0 d = true → PyData.eqv d d = true
  | .tuple xs, h => by
    simp only [PyData.eqv]
    exact eqvL_self xs h
  | .int i, _ => by simp [PyData.eqv]
  | .str i, _ => by simp [PyData.eqv]
  | .none, h => by cases h
  | .bool _, h => by cases h
  | .list _, h => by cases h
  | .dict _, h => by cases h
theorem eqvL_self : ∀ (xs : List PyData), ordL xs = true → PyData.eqvAll xs xs = true
  | [], _ => rfl
  | x :: xs, h => by
    simp only [ordL, Bool.and_eq_true] at h
    simp only [PyData.eqvAll, eqv_self x h.1, eqvL_self xs h.2, Bool.and_self]
end
mutual
theorem cmp_of_ltB : ∀ (d e : PyData) (b : Bool), ord0 d = true → ord0 e = true → ltB d e = some b → b = (cmp3 d e == .lt)
  | .tuple xs, e, b, h1, h2, h => by
    cases e <;> simp only [ord0, Bool.false_eq_true] at h2
    · simp [ltB] at h
    · simp [ltB] at h
    · simp only [ltB] at h
      simp only [cmp3]
      exact cmp_of_ltA xs _ b h1 h2 h
  | .int i, e, b, h1, h2, h => by
    cases e <;> simp only [ord0, Bool.false_eq_true] at h2
    · simp only [ltB, Option.some.injEq] at h
      rename_i j
      rw [← h]
      simp only [cmp3]
      by_cases a : i < j
      · simp [a]
      · by_cases c : j < i <;> simp [a, c]
    · simp [ltB] at h
    · simp [ltB] at h
  | .str i, e, b, h1, h2, h => by
    cases e <;> simp only [ord0, Bool.false_eq_true] at h2
    · simp [ltB] at h
    · simp only [ltB, Option.some.injEq] at h
      rename_i j
      rw [← h]
      simp only [cmp3]
      by_cases a : i.cps.toList < j.cps.toList
      · simp [a]
      · by_cases c : j.cps.toList < i.cps.toList <;> simp [a, c]
    · simp [ltB] at h
  | .none, _, _, h, _, _ => by cases h
  | .bool _, _, _, h, _, _ => by cases h
  | .list _, _, _, h, _, _ => by cases h
  | .dict _, _, _, h, _, _ => by cases h
theorem cmp_of_ltA : ∀ (xs ys : List PyData) (b : Bool), ordL xs = true → ordL ys = true → ltA xs ys = some b → b = (cmpL xs ys == .lt)
  | [], [], b, _, _, h => by
    simp only [ltA, Option.some.injEq] at h
    rw [← h]
    rfl
  | [], _ :: _, b, _, _, h => by
    simp only [ltA, Option.some.injEq] at h
    rw [← h]
    rfl
  | _ :: _, [], b, _, _, h => by
    simp only [ltA, Option.some.injEq] at h
    rw [← h]
    rfl
  | x :: xs, y :: ys, b, h1, h2, h => by
    simp only [ordL, Bool.and_eq_true] at h1 h2
    simp only [cmpL]
    rw [ltA] at h
    by_cases q : PyData.eqv x y = true
    · rw [if_pos q] at h
      have e := eq_of_eqv x y h1.1 h2.1 q
      subst e
      rw [cmp_self]
      exact cmp_of_ltA xs ys b h1.2 h2.2 h
    · rw [if_neg q] at h
      have e := cmp_of_ltB x y b h1.1 h2.1 h
      cases c : cmp3 x y with
      | lt => rw [c] at e; exact e
      | gt => rw [c] at e; exact e
      | eq =>
        have := eq_of_cmp x y h1.1 h2.1 c
        subst this
        exact absurd (eqv_self x h1.1) q
end
/-- sorted by cmp3 -/
def leD3 (d e : PyData) : Bool := !(cmp3 e d == .lt)
end DnSo
set_option maxHeartbeats 2000000
namespace DnSo
open PySem PySem.SeqAt PyProof.Rows PySem.W SrtO DnLt
def isI : PyData → Bool
  | .int _ => true
  | _ => false
def isT : PyData → Bool
  | .tuple _ => true
  | _ => false
/-- a tuple whose first item is such -/
def fst1 (p : PyData → Bool) : PyData → Bool
  | .tuple (x :: _) => p x
  | _ => false
def sortOk (ds : List PyData) : Bool := decide (ds.length ≤ 16777216) && ds.all (fun d => ord0 d && d.canLay0 && decide (d.depth ≤ 8)) && ds.all (fun d => ds.all fun e => (ltB d e).isSome) && (ds.all (fst1 isI) || ds.all (fst1 isT) || ds.all isI)
end DnSo
namespace Dn
open PySem PySem.Spec PyProof.Rows L2 DnSo
inductive Tri (K : Kx) (F : Hp) : List V → List Value → List D → Prop
  | nil : Tri K F [] [] []
  | cons {x : V} {u : Value} {d : D} {xs : List V} {us : List Value} {ds : List D} (h1 : RelV x u) (h2 : Rp K F x d) (h3 : Tri K F xs us ds) : Tri K F (x :: xs) (u :: us) (d :: ds)
theorem Tri.all {K : Kx} {F : Hp} {xs : List V} {us : List Value} {ds : List D} (t : Tri K F xs us ds) : RpAll K F xs ds := by
  induction t with
  | nil => exact .nil
  | cons a b c ih => exact .cons b ih
theorem Tri.mem {K : Kx} {F : Hp} {xs : List V} {us : List Value} {ds : List D} (t : Tri K F xs us ds) : ∀ u ∈ us, ∃ x d, d ∈ ds ∧ RelV x u ∧ Rp K F x d := by
  induction t with
  | nil => simp
  | cons a b c ih =>
    intro u hu
    rcases List.mem_cons.mp hu with e | e
    · subst e
      exact ⟨_, _, List.mem_cons_self, a, b⟩
    · obtain ⟨x, d, h1, h2⟩ := ih u e
      exact ⟨x, d, List.mem_cons_of_mem _ h1, h2⟩
theorem Tri.map {K : Kx} {F : Hp} {k : Value → D} {xs : List V} {us : List Value} {ds : List D} (t : Tri K F xs us ds) : (∀ x u d, d ∈ ds → RelV x u → Rp K F x d → k u = d) → us.map k = ds := by
  induction t with
  | nil => exact fun _ => rfl
  | cons a b c ih =>
    intro h
    rw [List.map_cons, h _ _ _ List.mem_cons_self a b, ih fun x u d hd => h x u d (List.mem_cons_of_mem _ hd)]
def sortF : List D → Option D
  | [.list xs] => if sortOk xs = true then some (.list (xs.mergeSort leD3)) else none
  | _ => none
end Dn
set_option maxHeartbeats 2000000
namespace Dn
open PySem PySem.Spec PyProof.Rows L2
def reprOk (d : D) : Bool := d.canLay0 && decide (d.depth ≤ 8) && PyData.showable d && PyData.leavesShort 13 d && decide (d.weight ≤ 2 ^ 20)
def reprF : List D → Option D
  | [.list xs] => if reprOk (.list xs) = true then some (.str (PyData.list xs).shown) else none
  | [.tuple xs] => if reprOk (.tuple xs) = true then some (.str (PyData.tuple xs).shown) else none
  | _ => none
section
variable {X : Cx}
theorem bb_repr : bootBuiltins "repr" = some (.builtin "repr") := by decide +kernel
end
section
variable {P : Program} {w : World} {K : PySem.W.Frag} {mg mb : Str → Option Value}
/-- the script as the layer sees it -/
theorem script_st {s₁ : Shared} {a : Addr} {vs : List Value} {ns : List Int} (KX : K.In s₁.heap) (ha : s₁.heap.get? a = some { cls := .type "list", data := .seq vs.toArray }) (hi : IntsAre vs ns) (hl : ns.length ≤ sizeLine) :
    ∃ H : Hp, Only H ∧ SqL K H a (ns.map V.int) ∧ HOk P w H s₁.heap ∧ (∀ b, H b ≠ none → b = a) ∧ (H a ≠ none → K.lookup a = none) := by
  have rv := vals_ints hi
  have lenV := hi.length
  by_cases hk : K.lookup a = none
  · have ev : ∀ {b : Addr} {u : HO}, (if b = a then some (HO.frz { cls := .type "list", data := .seq vs.toArray } (.lst (ns.map V.int))) else none) = some u → b = a ∧ u = .frz { cls := .type "list", data := .seq vs.toArray } (.lst (ns.map V.int)) := fun {b u} h => by
      by_cases z : b = a
      · rw [if_pos z] at h
        exact ⟨z, (Option.some.inj h).symm⟩
      · rw [if_neg z] at h
        cases h
    refine ⟨fun b => if b = a then some (.frz { cls := .type "list", data := .seq vs.toArray } (.lst (ns.map V.int))) else none, fun b => ?_, .inl (.inr ⟨_, if_pos rfl⟩), fun b u z => ?_, fun b z => ?_, fun _ => hk⟩
    · by_cases z : b = a
      · exact .inr ⟨_, _, if_pos z⟩
      · exact .inl (if_neg z)
    · obtain ⟨rfl, rfl⟩ := ev z
      exact ⟨ha, by rw [List.length_map]; exact hl, vs, _, rv, ha⟩
    · by_cases y : b = a
      · exact y
      · exact absurd (if_neg y) z
  · obtain ⟨o, hk⟩ := Option.ne_none_iff_exists'.mp hk
    have e := KX a o hk
    rw [ha] at e
    cases e
    exact ⟨fun _ => none, fun _ => .inl rfl, .inr ⟨_, vs.toArray, _, hk, rfl, rfl, rfl, by rw [List.size_toArray, lenV]; exact hl, by simpa using rv⟩, fun b u z => (by cases z), fun b z => absurd rfl z, fun z => absurd rfl z⟩
end
end Dn
set_option maxHeartbeats 2000000
namespace Dn
open PySem PySem.Spec PyProof.Rows L2 RT
section
variable {X : Cx} {tg e a b : Expr} {pos p py : Pos} {x y : Str}
/-- an operation on a list of one's own and a datum: what comes of it is no reference -/
def gOpBL (f : D → D → Option D) (i : Nat) (g : Md D) : Md D := fun ρ => (peek ρ i).bind fun _ => (g ρ).bind fun p => (peek p.2 i).bind fun d => (f d p.1).bind fun r => if flatD r = true then some (r, p.2) else none
theorem dbt_in (i : Nat) {g : Md D} (hu : X.A.units + 65 < cLine) (ha : DE X a g) (hN : X.N[i]? = some y := by rfl) (hy : Vis X.env.scope y := by first | exact Or.inl rfl | exact Or.inr (Or.inl rfl) | exact Or.inr (Or.inr rfl)) (hdy : (y == ("__debug__" : Str)) = false := by decide) (hcd : (y == ("__classdict__" : Str)) = false := by decide) (hm : behindInMarks .In (.Name y py) = false := by rfl) : DT X (.Compare a [.In] [.Name y py] pos) (gTst (gInB false i g)) :=
  pt_imp (pt_cmpR ((op_inD hu).or op_in_seq) ha (pe_var hN hy hdy hcd) hm) fun σ H Q q => by
    have q := tst_q q
    obtain ⟨F, ρ, d, ρ', s, eg, k⟩ := q
    obtain ⟨⟨d1, ρ1⟩, e1, eg1⟩ := bind_some eg
    obtain ⟨e, e2, eg2⟩ := bind_some eg1
    obtain ⟨b, e3, eg3⟩ := bind_some eg2
    cases eg3
    refine ⟨F, ρ, d1, _, s, e1, fun v F1 H1 p1 s1 r1 => ?_⟩
    obtain ⟨w, ew, rw'⟩ := peek_dp s1 e2
    exact ⟨w, ew, in_any hu (dp_mono s1.sub _ _ r1) rw' e3 (k _ F1 H1 p1 s1 (.bl _))⟩
theorem dbt_nin (i : Nat) {g : Md D} (hu : X.A.units + 65 < cLine) (ha : DE X a g) (hN : X.N[i]? = some y := by rfl) (hy : Vis X.env.scope y := by first | exact Or.inl rfl | exact Or.inr (Or.inl rfl) | exact Or.inr (Or.inr rfl)) (hdy : (y == ("__debug__" : Str)) = false := by decide) (hcd : (y == ("__classdict__" : Str)) = false := by decide) (hm : behindInMarks .NotIn (.Name y py) = false := by rfl) : DT X (.Compare a [.NotIn] [.Name y py] pos) (gTst (gInB true i g)) :=
  pt_imp (pt_cmpR ((op_notInD hu).or op_notIn_seq) ha (pe_var hN hy hdy hcd) hm) fun σ H Q q => by
    have q := tst_q q
    obtain ⟨F, ρ, d, ρ', s, eg, k⟩ := q
    obtain ⟨⟨d1, ρ1⟩, e1, eg1⟩ := bind_some eg
    obtain ⟨e, e2, eg2⟩ := bind_some eg1
    obtain ⟨b, e3, eg3⟩ := bind_some eg2
    cases eg3
    refine ⟨F, ρ, d1, _, s, e1, fun v F1 H1 p1 s1 r1 => ?_⟩
    obtain ⟨w, ew, rw'⟩ := peek_dp s1 e2
    exact ⟨w, ew, nin_any hu (dp_mono s1.sub _ _ r1) rw' e3 (k _ F1 H1 p1 s1 (.bl _))⟩
def revOf (d : D) : Option (List D) := match d with
  | .list xs => some xs.reverse
  | .tuple xs => some xs.reverse
  | _ => none
def gReve (g : Md D) : Md (List D) := fun ρ => (g ρ).bind fun p => (revOf p.1).bind fun ds => some (ds, p.2)
def numsOf : List D → Option (List Int)
  | [] => some []
  | .int i :: r => (numsOf r).bind fun ns => some (i :: ns)
  | _ => none
def sumF : List D → Option D
  | [.list xs] => (numsOf xs).bind fun ns => some (.int ns.sum)
  | _ => none
end
end Dn
set_option maxHeartbeats 2000000
namespace Dn
open PySem PySem.Spec PyProof.Rows L2
section
variable {X : Cx} {pos : Pos}
/-- {} -/
def gNewD : Md D := fun ρ => some (.dict [], ρ)
def putD (es : List (D × D)) (dk dv : D) : List (D × D) := if es.any (fun p => decide (nkD p.1 = nkD dk)) = true then es.map (fun p => if nkD p.1 = nkD dk then (p.1, dv) else p) else es ++ [(dk, dv)]
def keyTup : D → Bool
  | .tuple _ => true
  | _ => false
def sSetK (i : Nat) (gv gk : Md D) : Sd := fun ρ => (gv ρ).bind fun p => match p.2[i]? with
  | some (some (.own _ _)) => (gk p.2).bind fun q => match q.2[i]? with
    | some (some (.own b (.dict es))) => if keyTup q.1 = true ∧ (nkD q.1).isSome = true ∧ es.length < 16777216 then some (.nx, q.2.set i (some (.own b (.dict (putD es q.1 p.1))))) else none
    | _ => none
  | _ => none
def atD (es : List (D × D)) (dk : D) : Option D := (es.find? fun p => decide (nkD p.1 = nkD dk)).map (·.2)
def gGet (i : Nat) (gk gx : Md D) : Md D := fun ρ => match ρ[i]? with
  | some (some (.own _ (.dict _))) => (gk ρ).bind fun p => (gx p.2).bind fun q => match q.2[i]? with
    | some (some (.own _ (.dict es))) => if keyTup p.1 = true ∧ (nkD p.1).isSome = true then some ((atD es p.1).getD q.1, q.2) else none
    | _ => none
  | _ => none
def gIxK (i : Nat) (gk : Md D) : Md D := fun ρ => match ρ[i]? with
  | some (some (.own _ (.dict _))) => (gk ρ).bind fun p => match p.2[i]? with
    | some (some (.own _ (.dict es))) => if keyTup p.1 = true ∧ (nkD p.1).isSome = true then (atD es p.1).bind fun r => some (r, p.2) else none
    | _ => none
  | _ => none
end
end Dn
set_option maxHeartbeats 2000000
namespace Dn
open PySem PySem.Spec PyProof.Rows L2 DnSo
section
variable {X : Cx} {pos p : Pos} {x y : Str} {py : Pos}
def gSortN (i : Nat) : Md D := fun ρ => match ρ[i]? with
  | some (some (.own _ (.dict es))) => if sortOk (es.map (·.1)) = true then some (.list ((es.map (·.1)).mergeSort leD3), ρ) else none
  | _ => none
/-- list.extend by any list -/
def rExtS (K : PySem.W.Frag) : V → List V → Hp → VK → Prop := fun x vs H Q => ∃ l b xs zs, x = .ref l ∧ vs = [.ref b] ∧ H l = some (.lst xs) ∧ SqL K H b zs ∧ xs.length + zs.length ≤ sizeLine ∧ Q .non (upd H l (.lst (xs ++ zs)))
theorem mt_extS : MtM X "list.extend" (rExtS X.K) := by
  intro pins s σ H x vs v us Q I rx rv h
  obtain ⟨l, b, xs, zs, rfl, rfl, hH, hB, hz, q⟩ := h
  cases rx
  obtain ⟨u, rfl, ru⟩ := rv.one
  cases ru
  obtain ⟨z, its, n, r, hl, e⟩ := I.lstM hH
  obtain ⟨its2, r2, ⟨o2, n2, e2, c2, _, d2⟩, hl2⟩ := I.list hB
  have hi2 := r2.length
  have hsz : its.toArray.size + its2.toArray.size ≤ sizeLine := by rw [List.size_toArray, List.size_toArray]; omega
  have hlong : ¬ (!its.toArray.isEmpty && Builtin.List.listTooLong (its.toArray.size + its2.toArray.size)) = true := by
    rw [notLongL hsz, Bool.and_false]
    exact Bool.false_ne_true
  refine wpAny_call_entry F.slot_list_extend ⟨_, e, rfl⟩ F.entry_list_extend ?_ (F.args_list_extend_2 _ _)
  show wpAny _ _ (Builtin.List.listExtendWith (.ref l) (.ref b) .none) _ _ s
  unfold Builtin.List.listExtendWith
  refine wpAny_bind (wpAny_typeOf (T := "list") ⟨o2, e2, c2⟩ ?_)
  have ht : (Value.type "list" == Value.type "list") = true := by rfl
  rw [if_pos (by rw [ht]; simp)]
  refine wpAny_bind (listItems_at e2 d2 ?_)
  refine wpAny_bind (listItems_at (xs := its.toArray) (n := n) e rfl ?_)
  rw [if_neg hlong]
  refine wpAny_bind (listUpdate_at (xs := its.toArray) (n := n) e rfl ?_ (by rw [List.size_toArray]; omega) (by rw [Array.size_append]; omega))
  refine wpAny_pure ⟨.none, rfl, .non, _, I.lset (its' := its ++ its2) hH e (by simp) (r.append r2) ?_, rfl, q⟩
  rw [List.length_append]
  omega
def lsD : D → Option (List D)
  | .list ds => some ds
  | _ => none
def sExt (i : Nat) (g : Md D) : Sd := fun ρ => match ρ[i]? with
  | some (some (.own _ (.list _))) => (g ρ).bind fun p => match p.2[i]? with
    | some (some (.own b (.list ds))) => (lsD p.1).bind fun es => if ds.length + es.length ≤ 16777216 then some (.nx, p.2.set i (some (.own b (.list (ds ++ es))))) else none
    | _ => none
  | _ => none
theorem ds_ext (i : Nat) {ce : Expr} {g : Md D} (he : PE X ce (tBM (cxK X) "list" (rExtS X.K) (tVar i) (tCons (tD (cxK X) g) tNil))) (hs : swapsWith ce none pos.line X.env = pure false := by rfl) : DS X (.Expr ce pos) (sExt i g) :=
  ps_imp (ps_expr he hs) fun E σ H q => by
    obtain ⟨F, ρ, f, ρ', s, eg, k⟩ := q
    unfold sExt at eg
    split at eg
    · rename_i b0 d0 h0
      obtain ⟨a, ea, o0, _⟩ := st_owned s h0
      obtain ⟨_, xs0, hx0, _⟩ := own_lst o0
      obtain ⟨⟨d, ρ1⟩, e1, eg1⟩ := bind_some eg
      simp only at eg1
      split at eg1
      · rename_i b1 ds h1
        obtain ⟨es, e2, eg2⟩ := bind_some eg1
        split at eg2
        · rename_i hl
          cases eg2
          cases d <;> cases e2
          refine ⟨.ref a, ea, .inl ⟨rfl, xs0, SqL.of hx0⟩, F, ρ, _, ρ1, s, e1, fun v F1 H1 p1 s1 r1 => ?_⟩
          obtain ⟨a1, ea1, o1, _⟩ := st_owned s1 h1
          rw [ea] at ea1
          cases ea1
          obtain ⟨f1, xs, hx, rx⟩ := own_lst o1
          cases r1 with
          | @lst b zs _ hb rz =>
            refine ⟨a, b, xs, zs, rfl, rfl, hx, s1.sub.seq hb, by rw [line_eq, da_len rx, da_len rz]; exact hl, ?_⟩
            obtain ⟨o2, sh, kp⟩ := own_write s1.sub f1 hx (da_app rx rz)
            obtain ⟨s2, p2⟩ := st_own_set s1 h1 ea (Same.refl _) sh kp o2
            exact k σ F1 _ (p1.trans p2) s2
        · cases eg2
      · cases eg1
    · cases eg
end
end Dn
set_option maxHeartbeats 2000000
namespace Dn
open PySem PySem.Spec PyProof.Rows L2 DnSo
/-- an item behind the list at its key -/
def appG : List (D × D) → D → D → List (D × D)
  | [], k, x => [(k, .list [x])]
  | (k', d) :: es, k, x => if nkD k' = nkD k then (k', match d with | .list ds => .list (ds ++ [x]) | d => d) :: es else (k', d) :: appG es k x
def lenG : List (D × D) → D → Nat
  | [], _ => 0
  | (k', d) :: es, k => if nkD k' = nkD k then (match d with | .list ds => ds.length | _ => 0) else lenG es k
inductive RpG (K : Kx) (F H : Hp) : List (NestedKey × Addr × V) → List (D × D) → List Addr → Prop
  | nil : RpG K F H [] [] []
  | cons {k : NestedKey} {ka la : Addr} {dk : D} {vs : List V} {ds : List D} {xs : List (NestedKey × Addr × V)} {es : List (D × D)} {las : List Addr} (hk : nkD dk = some k) (h1 : Rp K F (.ref ka) dk) (hf : F la = none) (hh : H la = some (.lst vs)) (h2 : RpAll K F vs ds) (hn : la ∉ las) (t : RpG K F H xs es las) : RpG K F H ((k, ka, .ref la) :: xs) ((dk, .list ds) :: es) (la :: las)
theorem RpG.mono {K : Kx} {F F' H H' : Hp} (f : Same F F') : ∀ {xs es las}, RpG K F H xs es las → (∀ b ∈ las, F' b = F b ∧ H' b = H b) → RpG K F' H' xs es las
  | _, _, _, .nil, _ => .nil
  | _, _, _, .cons (la := la) hk h1 hf hh h2 hn t, h => by
    obtain ⟨e1, e2⟩ := h la List.mem_cons_self
    exact .cons hk (dp_mono f _ _ h1) (e1.trans hf) (e2.trans hh) (dpAll_mono f _ _ h2) hn (t.mono f fun b hb => h b (List.mem_cons_of_mem _ hb))
theorem RpG.len {K : Kx} {F H : Hp} : ∀ {xs es las}, RpG K F H xs es las → xs.length = es.length
  | _, _, _, .nil => rfl
  | _, _, _, .cons _ _ _ _ _ _ t => congrArg (· + 1) t.len
theorem RpG.free {K : Kx} {F H : Hp} : ∀ {xs es las}, RpG K F H xs es las → ∀ b ∈ las, F b = none ∧ ∃ vs, H b = some (.lst vs)
  | _, _, _, .nil, b, hb => by cases hb
  | _, _, _, .cons _ _ hf hh _ _ t, b, hb => by
    rcases List.mem_cons.mp hb with rfl | hb
    · exact ⟨hf, _, hh⟩
    · exact t.free b hb
open Classical in
/-- what stands for good, and the lists -/
noncomputable def ext (F H : Hp) (las : List Addr) : Hp := fun b => if b ∈ las then H b else F b
section
variable {X : Cx} {pos : Pos}
/-- the loop on data -/
def grpD (gt : D → Env → Option Env) (p : Nat) (g0 gk gx : Md D) : List D → List (D × D) → Env → Option (List (D × D) × Env)
  | [], es, ρ => some (es, ρ)
  | d :: ds, es, ρ => (gt d ρ).bind fun ρ1 => (g0 ρ1).bind fun q0 => (setC p (.val q0.1) q0.2).bind fun ρ2 => (gk ρ2).bind fun q1 => (gx q1.2).bind fun q2 =>
      if keyTup q1.1 = true ∧ (nkD q1.1).isSome = true ∧ es.length < 16777216 ∧ lenG es q1.1 < 16777216 then grpD gt p g0 gk gx ds (appG es q1.1 q2.1) q2.2 else none
def emptyOwn : Option (Option Cell) → Bool
  | some (some (.own false (.dict []))) => true
  | _ => false
def sGrp (i : Nat) (gi : Md (List D)) (gt : D → Env → Option Env) (p : Nat) (g0 gk gx : Md D) : Sd := fun ρ => (gi ρ).bind fun q => if emptyOwn q.2[i]? = true then
    (grpD gt p g0 gk gx q.1 [] (q.2.set i none)).bind fun r => (setC i (.val (.dict r.1)) r.2).bind fun ρ' => some (.nx, ρ') else none
end
end Dn
set_option maxHeartbeats 2000000
namespace Dn
open PySem PySem.Spec PyProof.Rows L2 DnSo
def keysTup (es : List (D × D)) : Bool := es.all fun p => keyTup p.1
section
variable {X : Cx} {pos : Pos}
def getG : D → D → D → Option D
  | .dict es, k, x => if keysTup es = true ∧ keyTup k = true ∧ (nkD k).isSome = true then some ((atD es k).getD x) else none
  | _, _, _ => none
def gGetD (go gk gx : Md D) : Md D := fun ρ => (go ρ).bind fun p => (gk p.2).bind fun q => (gx q.2).bind fun r => (getG p.1 q.1 r.1).bind fun z => some (z, r.2)
/-- l.index(x) -/
def ixOf (d : D) : List D → Nat → Option Nat
  | [], _ => none
  | x :: xs, i => if PyData.eqv x d = true then some i else ixOf d xs (i + 1)
def indF : D → D → Option D
  | .list xs, d => if SeqAt.shaped (.list xs) = true ∧ SeqAt.shaped d = true then (ixOf d xs 0).bind fun j => some (.int (j : Nat)) else none
  | _, _ => none
def gInd (go gx : Md D) : Md D := fun ρ => (go ρ).bind fun p => (gx p.2).bind fun q => (indF p.1 q.1).bind fun z => some (z, q.2)
/-- what is never reached -/
def sFail : Sd := fun _ => none
end
end Dn
set_option maxHeartbeats 2000000
namespace Dn
open PySem PySem.Spec PyProof.Rows L2 DnSo
def lOwnD : Option (Option Cell) → Option (List D)
  | some (some (.own _ (.list ds))) => some ds
  | _ => none
def lcW (i0 : Nat) (vs : List Nat) (gt : D → Env → Option Env) (gc : Md Bool) (ge : Md D) : Nat → Nat → Env → Option (List D × Env)
  | 0, j, ρ => (lOwnD ρ[i0]?).bind fun ds => if ds.length ≤ j then some ([], ρ) else none
  | n + 1, j, ρ => (lOwnD ρ[i0]?).bind fun ds => match ds[j]? with
    | none => some ([], ρ)
    | some d => (gt d ρ).bind fun ρ1 => (gc ρ1).bind fun p => if p.1 = true then (ge p.2).bind fun q => (lcW i0 vs gt gc ge n (j + 1) (wipeE q.2 vs)).bind fun r => some (q.1 :: r.1, r.2) else lcW i0 vs gt gc ge n (j + 1) (wipeE p.2 vs)
def gLcW (i0 : Nat) (vs : List Nat) (gt : D → Env → Option Env) (gc : Md Bool) (ge : Md D) : Md D := fun ρ => (lOwnD ρ[i0]?).bind fun ds => if ds.length ≤ 16777216 ∧ vs.all (notOwn ρ) = true ∧ i0 ∉ vs then
  (lcW i0 vs gt gc ge ds.length 0 (wipeE ρ vs)).bind fun r => some (.list r.1, backE ρ vs r.2) else none
end Dn
set_option maxHeartbeats 2000000
namespace Dn
open PySem PySem.Spec PyProof.Rows L2 DnSo
def three : List D → Option (D × D × D)
  | [a, b, c] => some (a, b, c)
  | _ => none
def sPar3 (i j l : Nat) (gs : Md (List D)) : Sd := fun ρ => (gs ρ).bind fun p => (three p.1).bind fun t => (setC i (.val t.1) p.2).bind fun ρ1 => (setC j (.val t.2.1) ρ1).bind fun ρ2 => (setC l (.val t.2.2) ρ2).bind fun ρ3 => some (.nx, ρ3)
end Dn
set_option maxHeartbeats 2000000
namespace Dn
open PySem PySem.Spec PyProof.Rows L2 DnSo
def addL2 : D → D → Option D
  | .list xs, .list ys => if xs.length + ys.length ≤ 16777216 then some (.list (xs ++ ys)) else none
  | _, _ => none
end Dn
set_option maxHeartbeats 2000000
namespace Dn
open PySem PySem.Spec PyProof.Rows L2 DnSo
abbrev Gp := D × List D
def gpD (e : Gp) : D := .list [e.1, .list e.2]
def putG : List Gp → List Bool → D → List Gp
  | e :: es, b :: bs, x => if b = true then (e.1, e.2 ++ [x]) :: es else e :: putG es bs x
  | es, _, _ => es
def lenB : List Gp → List Bool → Nat
  | e :: es, b :: bs => if b = true then e.2.length else lenB es bs
  | _, _ => 0
def selG : List Gp → List Bool → List D
  | e :: es, b :: bs => if b = true then gpD e :: selG es bs else selG es bs
  | _, _ => []
def adrs : List (Addr × Addr) → List Addr
  | [] => []
  | g :: gs => g.1 :: g.2 :: adrs gs
inductive RpL (K : Kx) (F H : Hp) : List (Addr × Addr) → List Gp → Prop
  | nil : RpL K F H [] []
  | cons {g r : Addr} {kv : V} {vs : List V} {dk : D} {ds : List D} {gs : List (Addr × Addr)} {es : List Gp} (fg : F g = none) (fr : F r = none) (hg : H g = some (.lst [kv, .ref r])) (hr : H r = some (.lst vs)) (rk : Rp K F kv dk) (rv : RpAll K F vs ds) (n1 : g ≠ r) (n2 : g ∉ adrs gs) (n3 : r ∉ adrs gs) (t : RpL K F H gs es) : RpL K F H ((g, r) :: gs) ((dk, ds) :: es)
theorem adrs_in1 {g r : Addr} {gs : List (Addr × Addr)} : g ∈ adrs ((g, r) :: gs) := List.mem_cons_self
theorem adrs_in2 {g r : Addr} {gs : List (Addr × Addr)} : r ∈ adrs ((g, r) :: gs) := List.mem_cons_of_mem _ List.mem_cons_self
theorem adrs_in3 {b g r : Addr} {gs : List (Addr × Addr)} (h : b ∈ adrs gs) : b ∈ adrs ((g, r) :: gs) := List.mem_cons_of_mem _ (List.mem_cons_of_mem _ h)
theorem RpL.mono {K : Kx} {F F' H H' : Hp} (f : Same F F') : ∀ {gs es}, RpL K F H gs es → (∀ b ∈ adrs gs, F' b = F b ∧ H' b = H b) → RpL K F' H' gs es
  | _, _, .nil, _ => .nil
  | _, _, .cons fg fr hg hr rk rv n1 n2 n3 t, h => by
    obtain ⟨e1, e2⟩ := h _ adrs_in1
    obtain ⟨e3, e4⟩ := h _ adrs_in2
    exact .cons (e1.trans fg) (e3.trans fr) (e2.trans hg) (e4.trans hr) (dp_mono f _ _ rk) (dpAll_mono f _ _ rv) n1 n2 n3 (t.mono f fun b hb => h b (adrs_in3 hb))
theorem RpL.len {K : Kx} {F H : Hp} : ∀ {gs es}, RpL K F H gs es → gs.length = es.length
  | _, _, .nil => rfl
  | _, _, .cons _ _ _ _ _ _ _ _ _ t => congrArg (· + 1) t.len
theorem RpL.free {K : Kx} {F H : Hp} : ∀ {gs es}, RpL K F H gs es → ∀ b ∈ adrs gs, F b = none ∧ ∃ vs, H b = some (.lst vs)
  | _, _, .nil, b, hb => by cases hb
  | _, _, .cons fg fr hg hr _ _ _ _ _ t, b, hb => by
    rcases List.mem_cons.mp hb with rfl | hb
    · exact ⟨fg, _, hg⟩
    · rcases List.mem_cons.mp hb with rfl | hb
      · exact ⟨fr, _, hr⟩
      · exact t.free b hb
def noOwn (ρ : Env) : Bool := ρ.all fun c => match c with
  | some (.own _ _) => false
  | _ => true
def selB (v : Nat) (gc : Md Bool) : List Gp → Env → Option (List Bool × Env)
  | [], ρ => some ([], ρ)
  | e :: es, ρ => (setC v (.val (gpD e)) ρ).bind fun ρ1 => (gc ρ1).bind fun r => (selB v gc es (wipeE r.2 [v])).bind fun q => some (r.1 :: q.1, q.2)
section
variable {X : Cx} {pos : Pos}
/-- a turn on data -/
def turnL (p q v : Nat) (gk : Md D) (gc g0 : Md Bool) (g2 gx : Md D) (es : List Gp) (ρ1 : Env) : Option (List Gp × Env) :=
  (gk ρ1).bind fun k => (setC p (.val k.1) k.2).bind fun ρ3 => (selB v gc es (wipeE ρ3 [v])).bind fun bs => (setC q (.val (.list (selG es bs.1))) ρ3).bind fun ρ4 => (g0 ρ4).bind fun b =>
    if noOwn ρ3 = true ∧ es.length < 16777216 ∧ lenB es bs.1 < 16777216 ∧ b.1 = (selG es bs.1).isEmpty then
      if b.1 = true then (g2 (ρ3.set q none)).bind fun k2 => (gx k2.2).bind fun x => some (es ++ [(k2.1, [x.1])], x.2)
      else (gx (ρ3.set q none)).bind fun x => some (putG es bs.1 x.1, x.2)
    else none
/-- the loop on data -/
def grpLD (gt : D → Env → Option Env) (p q v : Nat) (gk : Md D) (gc g0 : Md Bool) (g2 gx : Md D) : List D → List Gp → Env → Option (List Gp × Env)
  | [], es, ρ => some (es, ρ)
  | d :: ds, es, ρ => (gt d ρ).bind fun ρ1 => (turnL p q v gk gc g0 g2 gx es ρ1).bind fun r => grpLD gt p q v gk gc g0 g2 gx ds r.1 r.2
def emptyOwnL : Option (Option Cell) → Bool
  | some (some (.own false (.list []))) => true
  | _ => false
def sGrpL (i : Nat) (gi : Md (List D)) (gt : D → Env → Option Env) (p q v : Nat) (gk : Md D) (gc g0 : Md Bool) (g2 gx : Md D) : Sd := fun ρ => (gi ρ).bind fun w => if emptyOwnL w.2[i]? = true then
    (grpLD gt p q v gk gc g0 g2 gx w.1 [] (w.2.set i none)).bind fun r => (setC i (.val (.list (r.1.map gpD))) r.2).bind fun ρ' => some (.nx, ρ') else none
/-- a, b = a list -/
def gTLst (n : Nat) (gs : List D → Env → Option Env) : D → Env → Option Env
  | .list ds, ρ => if ds.length = n then gs ds ρ else none
  | _, _ => none
end
end Dn
set_option maxHeartbeats 1000000
namespace Gz
open PySem
open Sem (wp)
def onlyRet : List Frame → Bool
  | [] => true
  | .ret .. :: fs => onlyRet fs
  | .gen .. :: _ => false
def flatF (F : Frame) : Frame := .ret (fun _ => .unsupported "") none false [] F.where_.1 F.where_.2 []
/-- as it is, but it can't be woken -/
def dead : GenState → GenState
  | .suspended _ l c p fs cl => .suspended (fun _ => .unsupported "") l c p (fs.map flatF) cl
  | x => x
def susp : GenState → Bool
  | .suspended .. => true
  | _ => false
/-- the one table and the other: those that z names sleep in the one so that they can't be woken -/
def Rel (z : Nat → Option GenState) (a b : Array GenState) : Prop := a.size = b.size ∧ ∀ i : Nat, match z i with
  | some x => a[i]? = some (dead x) ∧ b[i]? = some x ∧ susp x = true
  | none => a[i]? = b[i]?
def TabOk (a : Array GenState) : Prop := ∀ (i : Nat) k l c p fs cl, a[i]? = some (.suspended k l c p fs cl) → onlyRet fs = true
def genOk : GenState → Bool
  | .suspended _ _ _ _ fs _ => onlyRet fs
  | _ => true
theorem Rel.set {z : Nat → Option GenState} {a b : Array GenState} (h : Rel z a b) {g : Nat} (hz : z g = none) (y : GenState) : Rel z (a.setIfInBounds g y) (b.setIfInBounds g y) := by
  refine ⟨by simp [h.1], fun i => ?_⟩
  by_cases hi : g = i
  · subst hi
    rw [hz]
    show (a.setIfInBounds g y)[g]? = (b.setIfInBounds g y)[g]?
    rw [Array.getElem?_setIfInBounds, Array.getElem?_setIfInBounds, h.1, if_pos rfl, if_pos rfl]
  · have e1 : (a.setIfInBounds g y)[i]? = a[i]? := Array.getElem?_setIfInBounds_ne hi
    have e2 : (b.setIfInBounds g y)[i]? = b[i]? := Array.getElem?_setIfInBounds_ne hi
    rw [e1, e2]
    exact h.2 i
theorem TabOk.set {a : Array GenState} (h : TabOk a) {g : Nat} {y : GenState} (hy : genOk y = true) : TabOk (a.setIfInBounds g y) := by
  intro i k l c p fs cl e
  by_cases hi : g = i
  · subst hi
    rw [Array.getElem?_setIfInBounds] at e
    rw [if_pos rfl] at e
    split at e
    · cases e
      exact hy
    · cases e
  · rw [Array.getElem?_setIfInBounds_ne hi] at e
    exact h i k l c p fs cl e
theorem Rel.push {z : Nat → Option GenState} {a b : Array GenState} (h : Rel z a b) (y : GenState) : Rel z (a.push y) (b.push y) := by
  refine ⟨by simp [h.1], fun i => ?_⟩
  have e1 : ∀ c : Array GenState, (c.push y)[i]? = if i = c.size then some y else c[i]? := fun c => Array.getElem?_push
  have q := h.2 i
  cases hz : z i with
  | none =>
    rw [hz] at q
    show (a.push y)[i]? = (b.push y)[i]?
    rw [e1, e1, h.1, q]
  | some x =>
    rw [hz] at q
    show (a.push y)[i]? = some (dead x) ∧ (b.push y)[i]? = some x ∧ susp x = true
    obtain ⟨q1, q2, q3⟩ := q
    have hl : i < b.size := by
      rw [Array.getElem?_eq_some_iff] at q2
      exact q2.1
    have hs := h.1
    rw [e1, e1, if_neg (by omega), if_neg (by omega)]
    exact ⟨q1, q2, q3⟩
theorem TabOk.push {a : Array GenState} (h : TabOk a) {y : GenState} (hy : genOk y = true) : TabOk (a.push y) := by
  intro i k l c p fs cl e
  rw [Array.getElem?_push] at e
  split at e
  · cases e
    exact hy
  · exact h i k l c p fs cl e
/-- what slept sleeps on -/
def Kept (a b : Array GenState) : Prop := ∀ (i : Nat) (x : GenState), a[i]? = some x → susp x = true → b[i]? = some x
theorem Kept.refl (a : Array GenState) : Kept a a := fun _ _ h _ => h
theorem Kept.trans {a b c : Array GenState} (h : Kept a b) (h' : Kept b c) : Kept a c := fun i x e s => h' i x (h i x e s) s
end Gz
set_option maxHeartbeats 1000000
namespace Gz
open PySem PySem.Spec PyProof.Rows L2 Dn GenW
def cutH (n : Nat) (h : Heap) : Heap := { h with objs := h.objs.take n }
abbrev rb (X : Cx) (s : Shared) (H : Hp) (n : Nat) : Cx := { X with s_0 := { s with heap := cutH n s.heap }, H_0 := H }
section
variable {X : Cx} {n : Nat} {a : Addr} {g : Nat} {go : Obj} {ip ipw : List (Addr × Obj)} {σ : L2.St} {F Fw Hw H H2 F2 : Hp} {s₀ s s' : Shared} {ρ : Dn.Env}
/-- no list of one's own in it -/
def noOwn (ρ : Dn.Env) : Bool := ρ.all fun o => match o with
  | some (.own _ _) => false
  | _ => true
end
abbrev Gd := Dn.Env → Option (List D × Fl × Dn.Env)
def gP (s : Sd) : Gd := fun ρ => (s ρ).bind fun p => some ([], p.1, p.2)
def gEnd : Gd := fun ρ => some ([], .nx, ρ)
def gThen (s t : Gd) : Gd := fun ρ => (s ρ).bind fun p => match p.2.1 with
  | .nx => (t p.2.2).bind fun q => some (p.1 ++ q.1, q.2)
  | _ => some p
def gYield (e : Md D) : Gd := fun ρ => (e ρ).bind fun p => if noOwn p.2 = true then some ([p.1], .nx, p.2) else none
end Gz
set_option maxHeartbeats 1000000
namespace Gz
open PySem PySem.Spec PyProof.Rows L2 Dn GenW
section
variable (P : Program) (w : World) (K : PySem.W.Frag) (mg : Str → Option Value) (base : Heap) (N : List Str) (qual : Str) (scope : Scope) (f : Addr) (cd : Value)
/-- the context of a generator's body; a: where its object stands -/
abbrev gX (B : Around) (outer : List PySem.Env) (s : Shared) (H : Hp) (a : Addr) (go : Obj) : Cx :=
  { (cxOf CX0 P w K mg base N qual scope f cd B outer s H fun _ _ _ => False).nox with pn := [(a, go)] }
end
end Gz
set_option maxHeartbeats 1000000
namespace Gz
open PySem PySem.Spec PyProof.Rows L2 Dn GenW
section
variable {C : Cx} {pins : List (Addr × Obj)} {n : Nat} {a : Addr} {g : Nat} {go : Obj} {N : List Str} {qual : Str} {scope : Scope} {f : Addr} {cd : Value} {sc : Shared} {Hc : Hp} {σ : L2.St} {F H Fs : Hp} {s ss : Shared} {T : List Addr}
abbrev gC (C : Cx) (N : List Str) (qual : Str) (scope : Scope) (f : Addr) (cd : Value) (sc : Shared) (Hc : Hp) (a : Addr) (go : Obj) : Cx := gX C.prog C.w C.K C.mg C.base N qual scope f cd C.A.in1 C.stack sc Hc a go
/-- the generator's things -/
def Gt (n : Nat) (a : Addr) (g : Nat) (H : Hp) (s : Shared) : Prop := (∀ b ∈ [n, a], H b = none ∧ ∃ o, s.heap.get? b = some o ∧ ∀ v, o.data ≠ .cell v) ∧ s.heap.IsGen a g
end
end Gz
set_option maxHeartbeats 2000000
namespace Gz
open PySem PySem.Spec PyProof.Rows L2 Dn GenW
/-- all that it hands out -/
def runG (N : Nat) (gd : Gd) (args : List D) : Option (List D) := (gd (envV N args)).bind fun p => match p.2.1 with
  | .nx => some p.1
  | _ => none
def gCallG (f : List D → Option (List D)) (gs : Md (List D)) : Md (List D) := fun ρ => (gs ρ).bind fun p => (f p.1).bind fun ds => some (ds, p.2)
end Gz
set_option maxHeartbeats 2000000
namespace Gz
open PySem PySem.Spec PyProof.Rows L2 Dn GenW
end Gz
set_option maxHeartbeats 2000000
namespace Gz
open PySem PySem.Spec PyProof.Rows L2 Dn GenW
end Gz
set_option maxHeartbeats 4000000
namespace Dn
open PySem PySem.Spec PyProof.Rows L2 DnSo
end Dn
set_option maxHeartbeats 4000000
namespace Dn
open PySem PySem.Spec PyProof.Rows L2 DnSo PpSet
end Dn
set_option maxHeartbeats 4000000
namespace Dn
open PySem PySem.Spec PyProof.Rows L2 DnSo
theorem dss_fail {X : Cx} {ss : List Stmt} : DSs X ss sFail := ⟨fun pins s σ H E I q => by
  obtain ⟨F, ρ, f, ρ', st, eg, k⟩ := q
  cases eg⟩
end Dn
set_option maxHeartbeats 4000000
namespace Dn
open PySem PySem.Spec PyProof.Rows L2 DnSo
section
variable {X : Cx}
/-- is, also of None and a truth value -/
def isE (d e : D) : Option D := match d, e with
  | .none, .bool _ => some (.bool false)
  | d, e => isD d e
theorem op_isE : OpR X (compareOp .Is) (rP2 (cxK X) isE) := by
  intro pins s σ H x y v u Q I rx ry h
  obtain ⟨F, d, e, r, sf, hd, he, ef, k⟩ := h
  unfold isE at ef
  split at ef
  · cases ef
    cases hd
    cases he
    cases rx
    cases ry
    exact wpAny_is_other rfl (fun z => nomatch z) ⟨.bl false, H, I, rfl, k _ F H (Grow.refl sf) (.bl _)⟩
  · exact op_isD pins s σ H x y v u Q I rx ry ⟨F, d, e, r, sf, hd, he, ef, k⟩
end
end Dn
set_option maxHeartbeats 2000000
namespace DnLe
open PySem PySem.SeqAt PyProof.Rows
/-- a <= b returns k and leaves the state -/
def RcLe (A : Around) (s : Shared) (y x : Value) (k : Bool) : Prop :=
  ∀ (prog : Program) (w : World) (E : Value → Shared → Prop) (Q : Value → Shared → Prop), Q (.bool k) s → wpAny (model prog w) A (richCompare .LtE y x) Q E s
open AutoSeq1 (wpAny_loadPart')
open MeetsSeq MeetsSeq2 MeetsSeq3 SeqRoads2
def LeAt (A : Around) (s : Shared) : List Value → List Value → Bool → Prop
  | [], [], k => k = true
  | [], _ :: _, k => k = true
  | _ :: _, [], k => k = false
  | v :: vs, w :: ws, k => (EqAt A s v w true ∧ LeAt A s vs ws k) ∨ (EqAt A s v w false ∧ RcLe A s v w k)
theorem leAt_end {A : Around} {s : Shared} {vs ws : List Value} {k : Bool} (h : LeAt A s vs ws k) (e : vs.zip ws = []) : k = decide (vs.length ≤ ws.length) := by
  cases vs with
  | nil =>
    cases ws with
    | nil =>
      have h1 : k = true := h
      rw [h1]
      exact (decide_eq_true (Nat.le_refl _)).symm
    | cons w ws =>
      have h1 : k = true := h
      rw [h1]
      exact (decide_eq_true (Nat.zero_le _)).symm
  | cons v vs =>
    cases ws with
    | nil =>
      have h1 : k = false := h
      rw [h1]
      exact (decide_eq_false (Nat.not_succ_le_zero _)).symm
    | cons w ws => cases e
theorem tup_meets (l b : Addr) (xs ys : Array Value) (n n2 : Nat) (dd dd2 : Option Addr) (sl sl2 : Array (Option Value)) (k : Bool) :
    Meets (Builtin.«tuple.__le__» ⟨[.ref l, .ref b], []⟩)
      (fun A R s => (s.heap.get? l = some { cls := .type "tuple", dict := dd, data := .seq xs n, slots := sl } ∧ s.heap.get? b = some { cls := .type "tuple", dict := dd2, data := .seq ys n2, slots := sl2 }) ∧
        LeAt A.in1 s xs.toList ys.toList k ∧ R (.ok (.ret (.bool k))) s) :=
  .of_wp fun prog w A R s h => by
    obtain ⟨hp, gn, dw, tk, os⟩ := s
    obtain ⟨⟨hl, hb⟩, hk, hR⟩ := h
    have f2 := AutoSeq1.sub_tuple_tuple
    wp_walk using wpAny_loadPart' hl, wpAny_loadPart' hb, wpAny_forIn_list _ (fun rest q s' => q.1 = none ∧ s' = ⟨hp, gn, dw, tk, os⟩ ∧ ∃ vs ws, rest = vs.zip ws ∧ LeAt A.in1 ⟨hp, gn, dw, tk, os⟩ vs ws k ∧
      decide (vs.length ≤ ws.length) = decide (xs.size ≤ ys.size)) _
    case turn =>
      rintro ⟨y, x⟩ rest q s' ⟨hq, rfl, vs, ws, hz, hk2, hs⟩
      cases vs with
      | nil => cases hz
      | cons v vs =>
        cases ws with
        | nil => cases hz
        | cons u ws =>
          rw [List.zip_cons_cons] at hz
          injection hz with h1 h2
          injection h1 with h3 h4
          subst h3 h4 h2
          have hs2 : decide (vs.length ≤ ws.length) = decide (xs.size ≤ ys.size) := by
            rw [← hs]
            simp
          rcases hk2 with ⟨e1, e2⟩ | ⟨e1, e2⟩
          · refine wpAny_bind (e1 prog w _ _ ?_)
            wp_walk
            exact ⟨rfl, rfl, vs, ws, rfl, e2, hs2⟩
          · refine wpAny_bind (e1 prog w _ _ ?_)
            have e3 := e2 prog w
            generalize PySem.richCompare = rc at e3 ⊢
            wp_walk
            refine e3 _ _ ?_
            wp_walk
            exact ⟨_, rfl, hR⟩
    case fin =>
      rintro ⟨q1, q2⟩ s' ⟨hq, rfl, vs, ws, hz, hk2, hs⟩
      simp only at hq
      subst hq
      have e := leAt_end hk2 hz.symm
      rw [hs] at e
      wp_walk
      refine ⟨_, rfl, ?_⟩
      rw [e] at hR
      simpa [Builtin.Tuple.tupleCompareSizes] using hR
    case h =>
      exact ⟨rfl, rfl, xs.toList, ys.toList, by simp, hk, by simp⟩
theorem tup_le {A : Around} {s : Shared} {l b : Addr} {xs ys : Array Value} {k : Bool} (hl : s.heap.IsTuple l xs) (hb : s.heap.IsTuple b ys) (hu : A.units < cLine) (h : LeAt A.in1 s xs.toList ys.toList k) : RcLe A s (.ref l) (.ref b) k := fun prog w E Q q => by
  obtain ⟨⟨c1, d1, a1, s1⟩, ho, hc, n, hd⟩ := id hl
  obtain ⟨⟨c2, d2, a2, s2⟩, ho2, hc2, n2, hd2⟩ := id hb
  simp only at hc hd hc2 hd2
  subst hc hd hc2 hd2
  refine richCompare_meets_room (op := .LtE) ⟨_, ho, rfl⟩ ⟨_, ho2, rfl⟩ F.slot_tuple_le F.entry_tuple_le (F.args_tuple_le_2 _ _) (tup_meets l b xs ys n n2 d1 d2 s1 s2 k) ⟨⟨ho, ho2⟩, h, ?_⟩ hu
  exact (⟨(fun x => nomatch x), q⟩ : Value.bool k ≠ Value.notImplemented ∧ Q (.bool k) s)
mutual
/-- x <= y, where it can be said -/
def leB : PyData → PyData → Option Bool
  | .int a, .int b => some (decide (a ≤ b))
  | .str a, .str b => some (!decide (b.cps.toList < a.cps.toList))
  | .tuple xs, .tuple ys => leA xs ys
  | _, _ => none
def leA : List PyData → List PyData → Option Bool
  | [], [] => some true
  | [], _ :: _ => some true
  | _ :: _, [] => some false
  | x :: xs, y :: ys => if PyData.eqv x y = true then leA xs ys else leB x y
end
theorem units_in1 (A : Around) : A.in1.units = A.units + 1 := rfl
mutual
theorem rc_le : ∀ (x y : PyData) (A : Around) (s : Shared) (a b : Value) (as bs : List Addr) (k : Bool), Reads s.heap a x as → Reads s.heap b y bs → leB x y = some k → x.canLay0 = true → y.canLay0 = true → A.units + x.depth < cLine → RcLe A s a b k
  | .int i, y, A, s, a, b, as, bs, k, ra, rb, h, _, _, _ => by
    cases y <;> simp only [leB, reduceCtorEq, Option.some.injEq] at h
    cases ra
    cases rb
    intro prog w E Q q
    rw [← h] at q
    exact PyProof.Rows.le_int q
  | .str i, y, A, s, a, b, as, bs, k, ra, rb, h, _, _, _ => by
    cases y <;> simp only [leB, reduceCtorEq, Option.some.injEq] at h
    cases ra
    cases rb
    intro prog w E Q q
    rw [← h] at q
    exact PySem.P.le_str q
  | .bool _, y, _, _, _, _, _, _, _, _, _, h, _, _, _ => by cases y <;> simp [leB] at h
  | .tuple xs, y, A, s, a, b, as, bs, k, ra, rb, h, c1, c2, hu => by
    cases y <;> simp [leB] at h
    rename_i ys
    cases ra with
    | tuple k1 k2 k3 k4 =>
      cases rb with
      | tuple m1 m2 m3 m4 =>
        have hd : A.units + (PyData.depthAll xs + 1) < cLine := by simpa [PyData.depth] using hu
        exact tup_le ⟨_, k1, k2, _, k3⟩ ⟨_, m1, m2, _, m3⟩ (by omega) (rc_leA xs ys A.in1 s _ _ _ _ k k4 m4 h (by simpa [PyData.canLay0] using c1) (by simpa [PyData.canLay0] using c2) (by rw [units_in1]; omega))
  | .none, y, _, _, _, _, _, _, _, _, _, h, _, _, _ => by cases y <;> simp [leB] at h
  | .list _, y, _, _, _, _, _, _, _, _, _, h, _, _, _ => by cases y <;> simp [leB] at h
  | .dict _, y, _, _, _, _, _, _, _, _, _, h, _, _, _ => by cases y <;> simp [leB] at h
theorem rc_leA : ∀ (xs ys : List PyData) (A : Around) (s : Shared) (vs ws : List Value) (as bs : List Addr) (k : Bool), ReadsAll s.heap vs xs as → ReadsAll s.heap ws ys bs → leA xs ys = some k → PyData.canLayAll0 xs = true → PyData.canLayAll0 ys = true →
    A.units + PyData.depthAll xs < cLine → LeAt A s vs ws k
  | [], [], A, s, _, _, _, _, k, ra, rb, h, _, _, _ => by
    cases ra
    cases rb
    simp only [leA, Option.some.injEq] at h
    exact (show k = true from h.symm)
  | [], _ :: _, A, s, _, _, _, _, k, ra, rb, h, _, _, _ => by
    cases ra
    cases rb
    simp only [leA, Option.some.injEq] at h
    exact (show k = true from h.symm)
  | _ :: _, [], A, s, _, _, _, _, k, ra, rb, h, _, _, _ => by
    cases ra
    cases rb
    simp only [leA, Option.some.injEq] at h
    exact (show k = false from h.symm)
  | x :: xs, y :: ys, A, s, _, _, _, _, k, ra, rb, h, c1, c2, hu => by
    have d1 : x.canLay0 = true ∧ PyData.canLayAll0 xs = true := by simpa [PyData.canLayAll0] using c1
    have d2 : y.canLay0 = true ∧ PyData.canLayAll0 ys = true := by simpa [PyData.canLayAll0] using c2
    have hd : A.units + max x.depth (PyData.depthAll xs) < cLine := by simpa [PyData.depthAll] using hu
    cases ra with
    | cons r rs =>
      cases rb with
      | cons t ts =>
        have e := eqAt_reads x y A s _ _ _ _ r t d1.1 d2.1 (by omega)
        rw [leA] at h
        by_cases q : PyData.eqv x y = true
        · rw [if_pos q] at h
          rw [q] at e
          exact .inl ⟨e, rc_leA xs ys A s _ _ _ _ k rs ts h d1.2 d2.2 (by omega)⟩
        · rw [if_neg q] at h
          have q' : PyData.eqv x y = false := by simpa using q
          rw [q'] at e
          exact .inr ⟨e, rc_le x y A s _ _ _ _ k r t h d1.1 d2.1 (by omega)⟩
end
end DnLe
namespace Dn
open PySem PySem.Spec PyProof.Rows L2
def leT (d e : D) : Option Bool := match d, e with
  | .int a, .int b => some (decide (a ≤ b))
  | .tuple xs, .tuple ys => if SeqAt.shaped (.tuple xs) = true ∧ SeqAt.shaped (.tuple ys) = true then DnLe.leA xs ys else none
  | _, _ => none
def leF (d e : D) : Option D := (leT d e).bind fun b => some (.bool b)
section
variable {X : Cx}
theorem op_leF (hu : X.A.units + 64 < cLine) : OpR X (compareOp .LtE) (rP2 (cxK X) leF) := by
  intro pins s σ H x y v u Q I rx ry h
  obtain ⟨F, d, e, r, sf, hd, he, ef, k⟩ := h
  obtain ⟨b, e1, e2⟩ := bind_some ef
  cases e2
  have q := k (.bl b) F H (Grow.refl sf) (.bl _)
  unfold leT at e1
  split at e1
  · cases e1
    cases hd
    cases he
    exact op_le pins s σ H _ _ v u Q I rx ry ⟨_, _, rfl, rfl, q⟩
  · rename_i xs ys
    split at e1
    · rename_i hs
      obtain ⟨as, r1⟩ := Dp.reads I _ x v (rp_dp (dp_mono sf _ _ hd) (SeqAt.canLay_of_shaped hs.1)) rx
      obtain ⟨bs, r2⟩ := Dp.reads I _ y u (rp_dp (dp_mono sf _ _ he) (SeqAt.canLay_of_shaped hs.2)) ry
      have hdp := SeqAt.depth_of_shaped hs.1
      exact DnLe.rc_le (.tuple xs) (.tuple ys) X.A s v u as bs b r1 r2 e1 (SeqAt.canLay_of_shaped hs.1) (SeqAt.canLay_of_shaped hs.2) (by omega) X.prog X.w _ _ ⟨.bl b, H, I, rfl, q⟩
    · cases e1
  · cases e1
end
end Dn
set_option maxHeartbeats 2000000
namespace Dn
open PySem PySem.Spec PyProof.Rows L2
def keyEq : D → D → Bool
  | .int i, .int j => decide (i = j)
  | .str x, .str y => decide (x = y)
  | _, _ => false
def isKey : D → Bool
  | .int _ => true
  | .str _ => true
  | _ => false
def lkp : List (D × D) → D → Option D
  | [], _ => none
  | (a, d) :: es, k => if keyEq a k = true then some d else lkp es k
/-- a dict of such keys, or the empty one -/
def dkOk : List (D × D) → Bool
  | [] => false
  | [(.none, _)] => true
  | es => es.all fun p => isKey p.1
theorem isKey_key {d : D} (h : isKey d = true) : ∃ k : Key, d = keyD k := by
  cases d <;> first | cases h | skip
  · exact ⟨.inl _, rfl⟩
  · exact ⟨.inr _, rfl⟩
theorem rp_keyU {K : Kx} {F : Hp} {v : V} {k : Key} (h : Rp K F v (keyD k)) : v = kV k := by
  cases k <;> (cases h; rfl)
theorem keyEq_iff (a b : Key) : keyEq (keyD a) (keyD b) = decide (a = b) := by
  cases a <;> cases b <;> simp [keyD, keyEq]
theorem rpKV_look {K : Kx} {F : Hp} : ∀ {ks : List (Key × V)} {es : List (D × D)}, RpKV K F ks es → ∀ k : Key, (valV ks k = none ∧ lkp es (keyD k) = none) ∨ ∃ v d, valV ks k = some v ∧ lkp es (keyD k) = some d ∧ Rp K F v d
  | _, _, .nil, k => .inl ⟨rfl, rfl⟩
  | _, _, @RpKV.cons _ _ k0 v ks d es h1 h2, k => by
    rw [lkp, keyEq_iff]
    unfold valV
    rw [List.find?_cons]
    by_cases h : k0 = k
    · simp only [h, decide_true]
      exact .inr ⟨v, d, rfl, rfl, h1⟩
    · simp only [h, decide_false, Bool.false_eq_true, ↓reduceIte]
      exact rpKV_look h2 k
theorem nkD_key {d : D} {k : NestedKey} (h : nkD d = some k) {K : Kx} {F : Hp} {a : Addr} (r : Rp K F (.ref a) d) : isKey d = false ∧ d ≠ .none := by
  cases r <;> exact ⟨rfl, fun z => nomatch z⟩
theorem rpN_no {K : Kx} {F : Hp} : ∀ {xs : List (NestedKey × Addr × V)} {es : List (D × D)}, RpN K F xs es → (∀ k, lkp es k = none) ∧ dkOk es = false
  | _, _, .nil => ⟨fun _ => rfl, rfl⟩
  | _, _, @RpN.cons _ _ k ka x dk dv xs es hk h1 h2 h3 => by
    obtain ⟨i1, i2⟩ := nkD_key hk h1
    refine ⟨fun q => ?_, ?_⟩
    · have e : keyEq dk q = false := by
        cases dk <;> first | rfl | cases i1
      rw [lkp, e]
      exact (rpN_no h3).1 q
    · cases dk <;> first | exact absurd rfl i2 | exact Bool.noConfusion i1 | (cases es <;> simp [dkOk, isKey])
/-- d[k], d a dict, a list or a tuple -/
def ixU : D → D → Option D
  | .dict es, k => if isKey k = true then lkp es k else none
  | d, k => ixD d k
section
variable {X : Cx} {e tg : Expr} {apos cpos pos : Pos}
theorem ix_U (hu : X.A.units + 64 < cLine) : IxR X (rP2 (cxK X) ixU) := by
  intro value slice pins s σ H x y v u Q I rx ry h hs
  obtain ⟨F, d, e, r, sf, hd, he, ef, k⟩ := h
  unfold ixU at ef
  split at ef
  · rename_i es
    split at ef
    · rename_i hk
      obtain ⟨kk, rfl⟩ := isKey_key hk
      obtain rfl := rp_keyU he
      cases hd with
      | @dic a ob ks _ h1 h2 _ =>
        rcases rpKV_look h2 kk with ⟨_, z⟩ | ⟨w, dd, e1, e2, rw'⟩
        · rw [z] at ef; cases ef
        · rw [e2] at ef
          cases ef
          have g : DGet H a (kV kk) (some w) := .inl ⟨ks, kk, .inr ⟨ob, sf _ _ h1⟩, rfl, e1.symm⟩
          obtain rfl : v = Value.ref a := rx
          exact tail_any (dict_typeIs I g) PySem.F.slot_dict_getitem.lookup (d_getItem (by omega) I g ry fun w' s' J rr => ⟨w, H, J, rr, k w F H (Grow.refl sf) rw'⟩) hs
      | dicE h1 =>
        have e1 : keyEq .none (keyD kk) = false := by cases kk <;> rfl
        simp [lkp, e1] at ef
      | dicN h1 h2 =>
        rw [(rpN_no h2).1] at ef
        cases ef
    · cases ef
  · exact ix_D value slice pins s σ H x y v u Q I rx ry ⟨F, d, e, r, sf, hd, he, ef, k⟩ hs
/-- k in d -/
def inU (d e : D) : Option D := match e with
  | .dict es => if isKey d = true ∧ dkOk es = true then some (.bool (lkp es d).isSome) else none
  | e => inD d e
theorem rp_look {K : Kx} {F H : Hp} (sf : Same F H) {y : V} {es : List (D × D)} (hd : Rp K F y (.dict es)) (ok : dkOk es = true) (kk : Key) : ∃ (a : Addr) (o : Option V), y = .ref a ∧ DGet H a (kV kk) o ∧ ((o = none ∧ lkp es (keyD kk) = none) ∨ ∃ v d, o = some v ∧ lkp es (keyD kk) = some d ∧ Rp K F v d) := by
  cases hd with
  | @dic a ob ks _ h1 h2 _ => exact ⟨a, valV ks kk, rfl, .inl ⟨ks, kk, .inr ⟨ob, sf _ _ h1⟩, rfl, rfl⟩, rpKV_look h2 kk⟩
  | @dicE a ob h1 =>
    have e1 : keyEq .none (keyD kk) = false := by cases kk <;> rfl
    exact ⟨a, none, rfl, .inl ⟨[], kk, .inr ⟨ob, sf _ _ h1⟩, rfl, rfl⟩, .inl ⟨rfl, by simp [lkp, e1]⟩⟩
  | dicN h1 h2 =>
    rw [(rpN_no h2).2] at ok
    cases ok
theorem op_inU (hu : X.A.units + 65 < cLine) : OpR X (compareOp .In) (rP2 (cxK X) inU) := by
  intro pins s σ H x y v u Q I rx ry h
  obtain ⟨F, d, e, r, sf, hd, he, ef, k⟩ := h
  unfold inU at ef
  split at ef
  · rename_i es
    split at ef
    · rename_i ok
      obtain ⟨kk, rfl⟩ := isKey_key ok.1
      obtain rfl := rp_keyU hd
      cases ef
      obtain ⟨a, o, rfl, g, hl⟩ := rp_look sf he ok.2 kk
      obtain rfl : u = Value.ref a := ry
      refine d_in (by omega) I g rx fun s' J => ⟨.bl o.isSome, H, J, rfl, ?_⟩
      refine k (.bl o.isSome) F H (Grow.refl sf) ?_
      have e1 : o.isSome = (lkp es (keyD kk)).isSome := by
        rcases hl with ⟨h1, h2⟩ | ⟨w, dd, h1, h2, _⟩ <;> rw [h1, h2] <;> rfl
      rw [e1]
      exact .bl _
    · cases ef
  · exact op_inD' hu pins s σ H x y v u Q I rx ry ⟨F, d, e, r, sf, hd, he, ef, k⟩
/-- for k in d -/
def keysU (es : List (D × D)) : List D := (es.map (·.1)).filter isKey
def gKeys (g : Md D) : Md (List D) := fun ρ => (g ρ).bind fun p => match p.1 with
  | .dict es => if dkOk es = true then some (keysU es, p.2) else none
  | _ => none
end
end Dn
set_option maxHeartbeats 2000000
namespace Dn
open PySem PySem.Spec PyProof.Rows L2
def fdivE : D → D → Option D
  | .int i, .int j => if j ≠ 0 ∧ (i.natAbs < 1073741824 ∧ j.natAbs < 1073741824) then some (.int (i.fdiv j)) else none
  | _, _ => none
section
variable {X : Cx}
theorem op_fdivE : OpR X (binaryOp .FloorDiv) (rP2 (cxK X) fdivE) := by
  intro pins s σ H x y v u Q I rx ry h
  obtain ⟨F, d, e, r, sf, hd, he, ef, k⟩ := h
  unfold fdivE at ef
  split at ef
  · split at ef
    · rename_i hl
      cases ef
      cases hd
      cases he
      exact op_fdivN pins s σ H _ _ v u Q I rx ry ⟨_, _, rfl, rfl, ⟨hl.1, by first | exact hl.2 | (simp only [CDivN]; omega) | omega⟩, k _ F H (Grow.refl sf) (.int _)⟩
    · cases ef
  · cases ef
end
end Dn
set_option maxHeartbeats 2000000
namespace Dn
open PySem PySem.Spec PyProof.Rows L2
end Dn
set_option maxHeartbeats 2000000
namespace Dn
open PySem PySem.Spec PyProof.Rows L2
theorem own_txt {K : Kx} {F H : Hp} {a : Addr} {es : List (D × D)} (h : OwnAt K F H a (.tuple [.dict es])) : F a = none ∧ ∃ ks, H a = some (.dK ks) ∧ RpKV K F ks es := by
  obtain ⟨f, h⟩ := h
  rcases h with ⟨xs, ds, e, _⟩ | ⟨xs, es', e, _⟩ | ⟨ks, es', e, hh, r⟩
  · cases e
  · cases e
  · cases e
    exact ⟨f, ks, hh, r⟩
def putU (es : List (D × D)) (k v : D) : List (D × D) := if es.any (fun p => keyEq p.1 k) = true then es.map (fun p => if keyEq p.1 k = true then (p.1, v) else p) else es ++ [(k, v)]
theorem rpKV_any {K : Kx} {F : Hp} {k : Key} : ∀ {ks : List (Key × V)} {es : List (D × D)}, RpKV K F ks es → (ks.any fun p => decide (p.1 = k)) = es.any fun p => keyEq p.1 (keyD k)
  | _, _, .nil => rfl
  | _, _, @RpKV.cons _ _ k0 v ks d es h1 h2 => by rw [List.any_cons, List.any_cons, rpKV_any h2, keyEq_iff]
theorem rpKV_map {K : Kx} {F : Hp} {k : Key} {v : V} {d : D} (r : Rp K F v d) : ∀ {ks : List (Key × V)} {es : List (D × D)}, RpKV K F ks es → RpKV K F (ks.map fun p => if p.1 = k then (p.1, v) else p) (es.map fun p => if keyEq p.1 (keyD k) = true then (p.1, d) else p)
  | _, _, .nil => .nil
  | _, _, @RpKV.cons _ _ k0 v0 ks d0 es h1 h2 => by
    rw [List.map_cons, List.map_cons]
    have e := keyEq_iff k0 k
    by_cases z : k0 = k
    · rw [decide_eq_true z] at e
      rw [if_pos z, if_pos e]
      exact .cons r (rpKV_map r h2)
    · rw [decide_eq_false z] at e
      rw [if_neg z, if_neg (by rw [e]; exact Bool.false_ne_true)]
      exact .cons h1 (rpKV_map r h2)
theorem rpKV_snoc {K : Kx} {F : Hp} {k : Key} {v : V} {d : D} (r : Rp K F v d) : ∀ {ks : List (Key × V)} {es : List (D × D)}, RpKV K F ks es → RpKV K F (ks ++ [(k, v)]) (es ++ [(keyD k, d)])
  | _, _, .nil => .cons r .nil
  | _, _, .cons h1 h2 => .cons h1 (rpKV_snoc r h2)
theorem rpKV_put {K : Kx} {F : Hp} {k : Key} {v : V} {d : D} (r : Rp K F v d) {ks : List (Key × V)} {es : List (D × D)} (h : RpKV K F ks es) : RpKV K F (putK ks k v) (putU es (keyD k) d) := by
  unfold putK putU
  rw [rpKV_any h]
  split
  · exact rpKV_map r h
  · exact rpKV_snoc r h
theorem rpKV_len {K : Kx} {F : Hp} : ∀ {ks : List (Key × V)} {es : List (D × D)}, RpKV K F ks es → ks.length = es.length
  | _, _, .nil => rfl
  | _, _, .cons _ h2 => congrArg (· + 1) (rpKV_len h2)
section
variable {X : Cx} {x : Str} {pos p : Pos}
def sNewT (i : Nat) : Sd := fun ρ => (setC i (.own false (.tuple [.dict []])) ρ).bind fun r => some (.nx, r)
theorem ds_newT {i : Nat} {pos' : Pos} (hN : X.N.Nodup) (hi : X.N[i]? = some x) (hx : Loc X.env.scope x) (hs : swapsWith (.Dict [] [] p) (some (.Name x pos')) pos.line X.env = pure false := by rfl) (hf : X.fn x = true ∨ X.env.scope.names.lookup x = some .local := by first | exact Or.inr rfl | exact Or.inl rfl) : DS X (.Assign [.Name x pos'] (.Dict [] [] p) pos) (sNewT i) :=
  ps_imp (ps_set hN hi hx pe_dnewK hs hf) fun E σ H q => by
    obtain ⟨F, ρ, f, ρ', s, eg, k⟩ := q
    obtain ⟨r, e2, eg2⟩ := bind_some eg
    cases eg2
    intro a hp
    have gr : Grow F H F (upd H a (.dK [])) := Grow.own s.sub hp
    have o : OwnAt (cxK X) F (upd H a (.dK [])) a (.tuple [.dict []]) := ⟨none_sub s.sub hp, .inr (.inr ⟨[], [], rfl, upd_same, .nil⟩)⟩
    refine k _ F _ (stp_set (gr.stp σ ρ) e2 fun _ _ b _ z => ?_) (st_set (s.grow gr) e2 ⟨a, rfl, o⟩ fun f _ b z1 z => ?_)
    · cases z
      exact hp
    · cases z
      cases z1
      exact ⟨rfl, not_owns s hp⟩
def sSetT (i : Nat) (gv gk : Md D) : Sd := fun ρ => (gv ρ).bind fun p => match p.2[i]? with
  | some (some (.own _ _)) => (gk p.2).bind fun q => match q.2[i]? with
    | some (some (.own b (.tuple [.dict es]))) => if isKey q.1 = true ∧ es.length < 16777216 then some (.nx, q.2.set i (some (.own b (.tuple [.dict (putU es q.1 p.1)])))) else none
    | _ => none
  | _ => none
theorem ds_setT (i : Nat) {y : Str} {py tpos : Pos} {e a : Expr} {gv gi : Md D} (hu : X.A.units + 65 < cLine) (he : DE X e gv) (hi : DE X a gi) (hN : X.N[i]? = some y := by rfl) (hv : Vis X.env.scope y := by first | exact Or.inl rfl | exact Or.inr (Or.inl rfl) | exact Or.inr (Or.inr rfl)) (hdy : (y == ("__debug__" : Str)) = false := by decide) (hcd : (y == ("__classdict__" : Str)) = false := by decide)
    (hs : swapsWith e (some (.Subscript (.Name y py) a tpos)) pos.line X.env = pure false := by rfl) : DS X (.Assign [.Subscript (.Name y py) a tpos] e pos) (sSetT i gv gi) :=
  ps_imp (ps_dput (by omega) (pe_var hN hv hdy hcd) hi he hs) fun E σ H q => by
    obtain ⟨F, ρ, f, ρ', s, eg, k⟩ := q
    obtain ⟨⟨d, ρ1⟩, e1, eg1⟩ := bind_some eg
    simp only at eg1
    split at eg1
    · rename_i b0 d0 h0
      obtain ⟨⟨dk, ρ2⟩, e2, eg2⟩ := bind_some eg1
      simp only at eg2
      split at eg2
      · rename_i b1 es h1
        split at eg2
        · rename_i hc
          cases eg2
          obtain ⟨kk, rfl⟩ := isKey_key hc.1
          refine ⟨F, ρ, d, ρ1, s, e1, fun v F1 H1 p1 s1 r1 => ?_⟩
          obtain ⟨a0, ea, o0, _⟩ := st_owned s1 h0
          refine ⟨.ref a0, ea, F1, ρ1, _, ρ2, s1, e2, fun u F2 H2 p2 s2 r2 => ?_⟩
          obtain ⟨a1, ea1, o1, _⟩ := st_owned s2 h1
          rw [ea] at ea1
          cases ea1
          obtain ⟨f1, ks, hx, rx⟩ := own_txt o1
          obtain rfl := rp_keyU r2
          have rp := rpKV_put (k := kk) (dp_mono p2.ff _ _ r1) rx
          have o2 : OwnAt (cxK X) F2 (upd H2 a0 (.dK (putK ks kk v))) a0 (.tuple [.dict (putU es (keyD kk) d)]) := ⟨f1, .inr (.inr ⟨_, _, rfl, upd_same, rp⟩)⟩
          refine ⟨a0, _, rfl, .inl ⟨ks, kk, hx, rfl, by rw [rpKV_len rx, line_eq]; exact hc.2, rfl⟩, ?_⟩
          have sh : Same F2 (upd H2 a0 (.dK (putK ks kk v))) := fun c u hc' => by rw [upd_ne (ne_of_none hc' f1)]; exact s2.sub c u hc'
          obtain ⟨s3, p3⟩ := st_own_set s2 h1 ea (Same.refl _) sh (fun c u hc' n => ⟨by rw [upd_ne n]; exact hc', rfl⟩) o2
          exact k σ F2 _ (p1.trans (p2.trans p3)) s3
        · cases eg2
      · cases eg2
    · cases eg1
/-- such a dict comes to stand for good -/
def frzT : List (D × D) → D
  | [] => .dict [(.none, .none)]
  | es => .dict es
def gFrzT (i : Nat) : Md D := fun ρ => match ρ[i]? with
  | some (some (.val d)) => some (d, ρ)
  | some (some (.own false (.tuple [.dict es]))) => some (frzT es, ρ.set i (some (.val (frzT es))))
  | _ => none
theorem pe_frzV {e : Expr} {t : TE} (h : PE X e t) : PE X e (fun σ H Q => t σ H fun v H1 => Q v H1 ∨ ∃ (a : Addr) (kvs : List (Key × V)), v = .ref a ∧ H1 a = some (.dK kvs) ∧ ∀ od, Q v (upd H1 a (.frz od (.dK kvs)))) := by
  refine ⟨fun pins s σ H Q I q => ?_⟩
  refine wpAny_mono (h.run pins s σ H _ I q) (fun u s1 hu => ?_) fun _ _ z => z
  obtain ⟨v, H1, I1, r1, q1⟩ := hu
  rcases q1 with q1 | ⟨a, kvs, rfl, ha, q1⟩
  · exact ⟨_, _, I1, r1, q1⟩
  · obtain ⟨od, J⟩ := I1.lock ha trivial
    exact ⟨_, _, J, r1, q1 od⟩
theorem de_frzT (i : Nat) {x : Str} (hN : X.N[i]? = some x := by rfl) (hv : Vis X.env.scope x := by first | exact Or.inl rfl | exact Or.inr (Or.inl rfl) | exact Or.inr (Or.inr rfl)) (hd : (x == ("__debug__" : Str)) = false := by decide) (hcd : (x == ("__classdict__" : Str)) = false := by decide) : DE X (.Name x pos) (gFrzT i) :=
  pe_imp (pe_frzV (pe_var hN hv hd hcd)) fun σ H Q q => by
    obtain ⟨F, ρ, d, ρ', s, eg, k⟩ := q
    unfold gFrzT at eg
    split at eg
    · rename_i d' h
      cases eg
      obtain ⟨v, e1, r⟩ := st_val s h
      exact ⟨v, e1, .inl (k v F H Stp.refl s r)⟩
    · rename_i es h
      cases eg
      obtain ⟨a, e1, r, ow⟩ := st_owned s h
      obtain ⟨f0, ks, hx, rk⟩ := own_txt r
      refine ⟨.ref a, e1, .inr ⟨a, ks, rfl, hx, fun od => ?_⟩⟩
      have sf : Same F (upd F a (.frz od (.dK ks))) := same_new f0
      have rd : Rp (cxK X) (upd F a (.frz od (.dK ks))) (.ref a) (frzT es) := by
        cases es with
        | nil => cases rk; exact .dicE upd_same
        | cons p es => exact .dic upd_same (dpKV_mono sf _ _ rk) (by simp)
      refine k (.ref a) (upd F a (.frz od (.dK ks))) (upd H a (.frz od (.dK ks))) ⟨sf, fun b o hb nb => ?_, fun b hb => ?_, fun j dj hj => ?_, fun b o hb => ?_⟩ ?_ rd
      · have n : b ≠ a := fun z => nb (by subst z; exact ow)
        exact ⟨(upd_ne n).trans hb, upd_ne n⟩
      · obtain ⟨j, f, dj, h1, h2⟩ := hb
        by_cases z : j = i
        · subst z
          rw [get_set_self h] at h1
          cases h1
        · rw [get_set_ne z] at h1
          exact .inl ⟨j, f, dj, h1, h2⟩
      · have z : j ≠ i := fun z => by
          subst z
          rw [h] at hj
          cases hj
        exact ⟨rfl, dj, by rw [get_set_ne z]; exact hj⟩
      · by_cases z : b = a
        · subst z
          exact ⟨_, upd_same⟩
        · exact ⟨o, (upd_ne z).trans hb⟩
      · refine ⟨same_upd2 s.sub, by rw [List.length_set]; exact s.len, fun j c hj => ?_, fun j l f g dj dl b h1 h2 h3 h4 => ?_⟩
        · by_cases z : j = i
          · subst z
            rw [get_set_self h] at hj
            cases hj
            exact ⟨.ref a, e1, rd⟩
          · rw [get_set_ne z] at hj
            have q := s.cell j c hj
            cases c with
            | val dj =>
              obtain ⟨v, e2, r2⟩ := q
              exact ⟨v, e2, dp_mono sf _ _ r2⟩
            | own f dj =>
              obtain ⟨b, e2, r2⟩ := q
              have n : b ≠ a := fun y => by
                subst y
                exact z (s.dist j i _ _ _ _ b hj h e2 e1)
              exact ⟨b, e2, (upd_ne n).trans r2.1, r2.2.mono sf fun o e => (upd_ne n).trans e⟩
        · by_cases z : j = i
          · subst z
            rw [get_set_self h] at h1
            cases h1
          · by_cases z2 : l = i
            · subst z2
              rw [get_set_self h] at h2
              cases h2
            · rw [get_set_ne z] at h1
              rw [get_set_ne z2] at h2
              exact s.dist j l f g dj dl b h1 h2 h3 h4
    · cases eg
/-- d.get(k, x) -/
def getU : D → D → D → Option D
  | .dict es, k, x => if isKey k = true ∧ dkOk es = true then some ((lkp es k).getD x) else none
  | _, _, _ => none
def gGetU (go gk gx : Md D) : Md D := fun ρ => (go ρ).bind fun p => (gk p.2).bind fun q => (gx q.2).bind fun r => (getU p.1 q.1 r.1).bind fun z => some (z, r.2)
theorem rp_isD {K : Kx} {F H : Hp} (sf : Same F H) {y : V} {es : List (D × D)} (hd : Rp K F y (.dict es)) (ok : dkOk es = true) : ∃ a, y = .ref a ∧ IsD H a := by
  cases hd with
  | @dic a ob ks _ h1 h2 _ => exact ⟨a, rfl, .inl ⟨ks, .inr ⟨ob, sf _ _ h1⟩⟩⟩
  | @dicE a ob h1 => exact ⟨a, rfl, .inl ⟨[], .inr ⟨ob, sf _ _ h1⟩⟩⟩
  | dicN h1 h2 =>
    rw [(rpN_no h2).2] at ok
    cases ok
theorem de_getU {o e f : Expr} {apos cpos : Pos} {go gk gx : Md D} (hu : X.A.units + 65 < cLine) (ho : DE X o go) (he : DE X e gk) (hf : DE X f gx) (m : M2 X o "get" apos e f cpos) : DE X (.Call (.Attribute o "get" apos) [e, f] [] cpos) (gGetU go gk gx) :=
  pe_imp (pe_dget2 (by omega) ho he hf m) fun σ H Q q => by
    obtain ⟨F, ρ, d, ρ', s, eg, k⟩ := q
    obtain ⟨⟨o, ρ1⟩, e1, eg⟩ := bind_some eg
    obtain ⟨⟨dk, ρ2⟩, e2, eg⟩ := bind_some eg
    obtain ⟨⟨dx, ρ3⟩, e3, eg⟩ := bind_some eg
    obtain ⟨z, e4, eg⟩ := bind_some eg
    cases eg
    obtain ⟨es, rfl⟩ : ∃ es, o = .dict es := by cases o <;> first | exact ⟨_, rfl⟩ | cases e4
    have e5 : (if isKey dk = true ∧ dkOk es = true then some ((lkp es dk).getD dx) else none) = some d := e4
    split at e5
    · rename_i ok
      cases e5
      obtain ⟨kk, rfl⟩ := isKey_key ok.1
      refine ⟨F, ρ, _, ρ1, s, e1, fun v F1 H1 p1 s1 r1 => ?_⟩
      obtain ⟨a, rfl, hD⟩ := rp_isD s1.sub r1 ok.2
      refine ⟨a, rfl, hD, F1, ρ1, _, ρ2, s1, e2, fun u F2 H2 p2 s2 r2 => ⟨F2, ρ2, dx, ρ3, s2, e3, fun w F3 H3 p3 s3 r3 => ?_⟩⟩
      obtain rfl := rp_keyU r2
      obtain ⟨b, ov, eb, g, hl⟩ := rp_look s3.sub (dp_mono (p2.ff.trans p3.ff) _ _ r1) ok.2 kk
      cases eb
      refine ⟨ov, g, ?_⟩
      rcases hl with ⟨h1, h2⟩ | ⟨w', dd, h1, h2, h3⟩
      · rw [h2] at k
        rw [h1]
        exact k w F3 H3 (p1.trans (p2.trans p3)) s3 r3
      · rw [h2] at k
        rw [h1]
        exact k w' F3 H3 (p1.trans (p2.trans p3)) s3 h3
    · cases e5
end
end Dn
set_option maxHeartbeats 2000000
namespace Dn
open PySem PySem.Spec PyProof.Rows L2
mutual
/-- no dict with tuple keys -/
def noN : D → Bool
  | .dict es => dkOk es && noNKV es
  | .list ds => noNAll ds
  | .tuple ds => noNAll ds
  | _ => true
def noNAll : List D → Bool
  | [] => true
  | d :: ds => noN d && noNAll ds
def noNKV : List (D × D) → Bool
  | [] => true
  | (_, d) :: es => noN d && noNKV es
end
mutual
/-- the marked empty dict as it is -/
def unE : D → D
  | .dict [(.none, .none)] => .dict []
  | .dict es => .dict (unKV es)
  | .list ds => .list (unAll ds)
  | .tuple ds => .tuple (unAll ds)
  | d => d
def unAll : List D → List D
  | [] => []
  | d :: ds => unE d :: unAll ds
def unKV : List (D × D) → List (D × D)
  | [] => []
  | (k, d) :: es => (k, unE d) :: unKV es
end
theorem sys_at {X : Cx} {pins : List (Addr × Obj)} {σ : L2.St} {H : Hp} {s : Shared} (I : Inv X pins σ H s) (hm : ∃ mm, X.base.Ns sysModules mm) : H sysModules = none ∧ ∃ o es ep, s.heap.get? sysModules = some o ∧ o.data = .dict es ep := by
  obtain ⟨mm, o, es, ep, e, d, _⟩ := hm
  obtain ⟨h1, h2⟩ := I.bs _ _ e
  exact ⟨h2, o, es, ep, h1, d⟩
section
variable {X : Cx} {pins : List (Addr × Obj)} {σ : L2.St} {H : Hp} {s : Shared}
theorem key_reads {k : Key} {v : Value} {h : Heap} (e : keyIs k v = true) : Reads h v (keyD k) [] := by
  rcases keyIs_shape e with ⟨i, t, rfl, rfl⟩ | ⟨x, t, rfl, rfl⟩
  · exact .int i t
  · exact .str x t
theorem rpKV_hd {K : Kx} {F : Hp} {ks : List (Key × V)} {x d : D} {es : List (D × D)} (h : RpKV K F ks ((x, d) :: es)) : isKey x = true := by
  cases h with
  | @cons k _ _ _ _ _ _ => cases k <;> rfl
theorem pairs_nil {P : Program} {w : World} {l : List DictEntry} (h : Pairs (mixKind P w) l []) : l = [] := by
  cases h
  rfl
mutual
theorem rp_reads (I : Inv X pins σ H s) (hm : ∃ mm, X.base.Ns sysModules mm) : ∀ (d : D) (v : V) (u : Value), Rp (cxK X) H v d → noN d = true → RelV v u → ∃ as, Reads s.heap u (unE d) as ∧ sysModules ∉ as
  | .none, _, _, h, _, r => by
    cases h
    cases r
    exact ⟨_, Reads.none, by simp⟩
  | .bool b, _, _, h, _, r => by
    cases h
    cases r
    exact ⟨_, Reads.bool b, by simp⟩
  | .int i, _, _, h, _, r => by
    cases h
    obtain ⟨t, rfl⟩ := r
    exact ⟨_, Reads.int i t, by simp⟩
  | .str x, _, _, h, _, r => by
    cases h
    obtain ⟨t, rfl⟩ := r
    exact ⟨_, Reads.str x t, by simp⟩
  | .list ds, _, _, h, n, r => by
    cases h with
    | lst hs ha =>
      cases r
      obtain ⟨its, rv, ⟨o, k, ho, hc, _, hd⟩, _⟩ := I.list hs
      obtain ⟨as, hr, hn⟩ := rp_readsAll I hm ds _ its ha n rv
      refine ⟨_, Reads.list ho hc hd hr, fun z => ?_⟩
      rcases List.mem_cons.mp z with z | z
      · obtain ⟨_, o', es, ep, e1, e2⟩ := sys_at I hm
        rw [z, ho] at e1
        cases e1
        rw [hd] at e2
        cases e2
      · exact hn z
  | .tuple ds, _, _, h, n, r => by
    cases h with
    | tup hs ha =>
      cases r
      obtain ⟨its, rv, ⟨o, ho, hc, k, hd⟩, _⟩ := I.tuple hs
      obtain ⟨as, hr, hn⟩ := rp_readsAll I hm ds _ its ha n rv
      exact ⟨_, Reads.tuple ho hc hd hr, hn⟩
  | .dict es, _, _, h, n, r => by
    have n' : dkOk es = true ∧ noNKV es = true := by simpa [noN] using n
    cases h with
    | @dic a ob ks _ hs hr hne =>
      cases r
      obtain ⟨_, hd, vs, rel, o, ents, ep, ho, hc, hdat, _, hp, _⟩ := dk_rd I.hok (.inr ⟨ob, hs⟩)
      obtain ⟨as, bs, h1, h2, h3, h4⟩ := rp_readsKV I hm es ks vs ents.toList hr n'.2 rel hp
      have eu : unE (.dict es) = .dict (unKV es) := by
        unfold unE
        split
        · rename_i e
          injection e with e
          subst e
          have q := rpKV_hd hr
          cases q
        · rename_i e
          injection e with e
          subst e
          rfl
        · rename_i e; cases e
        · rename_i e; cases e
        · rename_i q1 q2 q3 q4
          exact absurd rfl (q2 es)
      rw [eu]
      refine ⟨_, Reads.dict ho hc.1 hdat h1 h2, fun z => ?_⟩
      rw [List.cons_append] at z
      rcases List.mem_cons.mp z with z | z
      · rw [← z] at hd
        simp at hd
      · rcases List.mem_append.mp z with z | z
        · exact h3 z
        · exact h4 z
    | @dicE a ob hs =>
      cases r
      obtain ⟨_, hd, vs, rel, o, ents, ep, ho, hc, hdat, _, hp, _⟩ := dk_rd I.hok (.inr ⟨ob, hs⟩)
      cases rel
      have ee : ents.toList = [] := pairs_nil hp
      refine ⟨_, Reads.dict ho hc.1 hdat (as := []) (bs := []) (kvs := []) (by rw [ee]; exact .nil) (by rw [ee]; exact .nil), fun z => ?_⟩
      rw [List.append_nil] at z
      rw [← List.mem_singleton.mp z] at hd
      simp at hd
    | dicN h1 h2 =>
      rw [(rpN_no h2).2] at n'
      exact absurd n'.1 Bool.false_ne_true
theorem rp_readsAll (I : Inv X pins σ H s) (hm : ∃ mm, X.base.Ns sysModules mm) : ∀ (ds : List D) (vs : List V) (us : List Value), RpAll (cxK X) H vs ds → noNAll ds = true → Vals vs us → ∃ as, ReadsAll s.heap us (unAll ds) as ∧ sysModules ∉ as
  | [], _, _, h, _, r => by
    cases h
    cases r
    exact ⟨_, ReadsAll.nil, by simp⟩
  | d :: ds, _, _, h, n, r => by
    have n' : noN d = true ∧ noNAll ds = true := by simpa [noNAll] using n
    cases h with
    | cons h1 h2 =>
      cases r with
      | cons r1 r2 =>
        obtain ⟨as, q1, q2⟩ := rp_reads I hm d _ _ h1 n'.1 r1
        obtain ⟨bs, q3, q4⟩ := rp_readsAll I hm ds _ _ h2 n'.2 r2
        exact ⟨_, ReadsAll.cons q1 q3, fun z => (List.mem_append.mp z).elim q2 q4⟩
theorem rp_readsKV (I : Inv X pins σ H s) (hm : ∃ mm, X.base.Ns sysModules mm) : ∀ (es : List (D × D)) (ks : List (Key × V)) (vs : List (Key × Value)) (ents : List DictEntry), RpKV (cxK X) H ks es → noNKV es = true → KV ks vs → Pairs (mixKind X.prog X.w) ents vs →
    ∃ as bs, ReadsAll s.heap (ents.map (·.key)) ((unKV es).map (·.1)) as ∧ ReadsAll s.heap (ents.map (·.val)) ((unKV es).map (·.2)) bs ∧ sysModules ∉ as ∧ sysModules ∉ bs
  | [], _, _, _, h, _, r, p => by
    cases h
    cases r
    cases p
    exact ⟨_, _, ReadsAll.nil, ReadsAll.nil, by simp, by simp⟩
  | (k, d) :: es, _, _, _, h, n, r, p => by
    have n' : noN d = true ∧ noNKV es = true := by simpa [noNKV] using n
    cases h with
    | cons h1 h2 =>
      cases r with
      | cons r1 r2 =>
        cases p with
        | cons p1 p2 p3 =>
          obtain ⟨as, bs, a1, a2, a3, a4⟩ := rp_readsKV I hm es _ _ _ h2 n'.2 r2 p3
          obtain ⟨cs, q1, q2⟩ := rp_reads I hm d _ _ h1 n'.1 r1.2
          rw [← p2] at q1
          have kr := key_reads (h := s.heap) p1
          rw [← r1.1] at kr
          exact ⟨_, _, ReadsAll.cons kr a1, ReadsAll.cons q1 a2, by simpa using a3, fun z => (List.mem_append.mp z).elim q2 a4⟩
end
end
def reprOkU (d : D) : Bool := noN d && decide ((unE d).depth ≤ 16) && PyData.showable (unE d) && PyData.leavesShort 13 (unE d) && decide ((unE d).weight ≤ 2 ^ 20)
def reprFU : List D → Option D
  | [.list xs] => if reprOkU (.list xs) = true then some (.str (unE (.list xs)).shown) else none
  | [.dict xs] => if reprOkU (.dict xs) = true then some (.str (unE (.dict xs)).shown) else none
  | _ => none
section
variable {X : Cx}
theorem repr_refU {pins : List (Addr × Obj)} {s : Shared} {σ : L2.St} {F H : Hp} {Q : VK} {d : D} {a : Addr} (hm : ∃ mm, X.base.Ns sysModules mm) (hg : X.A.guards = some []) (hu : X.A.units + 65 < cLine) (I : Inv X pins σ H s) (sf : Same F H) (hp : Rp (cxK X) F (.ref a) d) (ok : reprOkU d = true)
    (k : ∀ v F' H', Grow F H F' H' → Rp (cxK X) F' v (.str (unE d).shown) → Q v H') : wpAny (model X.prog X.w) X.A (call (.builtin "repr") [.ref a]) (fun u s' => ∃ v H', Inv X pins σ H' s' ∧ RelV v u ∧ Q v H') X.xe s := by
  unfold reprOkU at ok
  simp only [Bool.and_eq_true, decide_eq_true_eq] at ok
  obtain ⟨⟨⟨⟨c1, c2⟩, c3⟩, c4⟩, c5⟩ := ok
  obtain ⟨as, r, hn⟩ := rp_reads I hm d (.ref a) (.ref a) (dp_mono sf _ _ hp) c1 rfl
  refine repr_of_reads' r c3 (fun _ => hn) hg (by omega) (fun _ _ e => e) (fun h' u tk hk => ?_) (PyData.shown_fits (by decide) (by decide) c4 c5)
  exact ⟨.str (unE d).shown, H, I.kept (t' := tk) hk, ⟨_, rfl⟩, k _ F H (Grow.refl sf) (.str _)⟩
theorem call_reprU (hm : ∃ mm, X.base.Ns sysModules mm) (hg : X.A.guards = some []) (hu : X.A.units + 65 < cLine) : CallR X (.builtin "repr") (rPn (cxK X) reprFU) := by
  intro pins s σ H xs us Q I rx h
  obtain ⟨F, ds, r, sf, hd, ef, k⟩ := h
  unfold reprFU at ef
  split at ef
  · split at ef
    · rename_i ok
      cases ef
      obtain ⟨v, rfl, hv⟩ := da1 hd
      have hv' := hv
      cases hv' with
      | lst h1 d1 =>
        rw [Vals.ref1 rx]
        exact repr_refU hm hg hu I sf hv ok k
    · cases ef
  · split at ef
    · rename_i ok
      cases ef
      obtain ⟨v, rfl, hv⟩ := da1 hd
      have e : ∃ a, v = .ref a := by cases hv <;> exact ⟨_, rfl⟩
      obtain ⟨a, rfl⟩ := e
      rw [Vals.ref1 rx]
      exact repr_refU hm hg hu I sf hv ok k
    · cases ef
  · cases ef
end
section
variable {P : Program} {w : World} {K : PySem.W.Frag} {mg mb : Str → Option Value}
theorem law_bodyM {k : Nat} {f a : Addr} {fd : FuncData} {st : Stmt} {N : List Str} {g : Sd} {s₁ : Shared} {vs : List Value} {ns : List Int}
    (Fn : Fun K "law" "law" st f fd) (S : FnScope N ["script"] (defScope st)) (KX : K.In s₁.heap) (hns : s₁.heap.Ns mainGlobals mg) (hb : s₁.heap.Ns builtinsNs mb) (hbb : ∀ x : Str, x ≠ "__name__" → mb x = bootBuiltins x) (hlim : s₁.heap.NoLimit) (hmod : ∃ mm, s₁.heap.Ns sysModules mm) (hg : s₁.gens = #[])
    (ha : s₁.heap.get? a = some { cls := .type "list", data := .seq vs.toArray }) (hi : IntsAre vs ns) (hl : ns.length ≤ 63) (hr : Room (k + 1) callerA) (hbind : ∀ (s : Shared) (u : Value), BindsTo s fd ⟨[u], []⟩ [("script", u)])
    (body : ∀ (base : Heap) (cdv : Value) (s : Shared) (H : Hp) (E : XK), K.In base → base.Ns mainGlobals mg → (∃ mm, base.Ns sysModules mm) → DSs (cxOf CX0 P w K mg base N "law" (defScope st) f cdv callerA [] s H E).nox (defBody st) g)
    (ok : runV N.length g [.list (ns.map PyData.int)] = some (.bool true)) :
    codeAny (model P w) callerA (.call (.ref f) ⟨[.ref a], []⟩) (fun r s' => r = .ok (.ret (.bool true)) ∧ OldK s₁.heap s'.heap ∧ s'.os = s₁.os ∧ AllBare s'.gens) s₁ := by
  obtain ⟨H, hO, hS, hok, hA, hK⟩ := script_st (P := P) (w := w) KX ha hi (Nat.le_trans hl (by decide))
  have base_of : ∀ {b : Addr} {o : Obj}, s₁.heap.get? b = some o → H b = none → (hidT s₁.heap H).get? b = some o := fun e n => hidT_get e n
  have noA : ∀ {b : Addr} {o : Obj} {es : Array DictEntry} {ep : Nat}, s₁.heap.get? b = some o → o.data = .dict es ep → H b = none := fun {b o es ep} e d => by
    by_cases q : H b = none
    · exact q
    · have e' := hA b q
      subst e'
      rw [ha] at e
      cases e
      cases d
  have nsK : ∀ {b : Addr} {m : Str → Option Value}, s₁.heap.Ns b m → (hidT s₁.heap H).Ns b m := fun {b m} ⟨o, es, ep, e, d, r⟩ => ⟨o, es, ep, base_of e (noA e d), d, r⟩
  have hKb : K.In (hidT s₁.heap H) := fun b o e => base_of (KX b o e) (by
    by_cases q : H b = none
    · exact q
    · have e' := hA b q
      subst e'
      rw [hK q] at e
      cases e)
  have hM : Mod K mg (hidT s₁.heap H) := ⟨hKb, nsK hns, ⟨mb, nsK hb, hbb⟩, let ⟨mc, h1, h2⟩ := hlim; ⟨mc, nsK h1, h2⟩⟩
  have e0 : Env0 P w K mg (hidT s₁.heap H) callerA [] s₁ H := ⟨rfl, hM, fun b o e => of_hidT e, Nat.le_of_eq (hidT_size _ _), trivial, fun b hb => absurd (show b ∈ ([] : List Addr) from hb) (by simp), hok, .of_eq hg⟩
  obtain ⟨oc, od, kV, doc, pm, an, cdv, ct, osl, rfl, lk, hcd⟩ := Fn.ex
  have hkind : ∀ y ∈ ([("script" : Str)] : List Str).zip [Value.ref a], (defScope st).names.lookup y.1 = some .local ∨ ((defScope st).names.lookup y.1 = some .cell ∧ ((cellsFrom (s₁.heap.objs.size + 1) (defScope st).names []).lookup y.1).isSome = true) := fun ⟨n, v⟩ hy => by
    rcases S.par n (List.of_mem_zip hy).1 with q | q
    · exact .inl q
    · exact .inr ⟨q, PySem.W.cellsFrom_some _ _ _ (.inl q)⟩
  have hbody := body (hidT s₁.heap H) cdv s₁ H (fun _ _ _ => False) hKb (nsK hns) (let ⟨mm, h⟩ := hmod; ⟨mm, nsK h⟩)
  have q0 : tDS (Kx.mk K P w) g { nx := fun _ _ => False, rt := fun v _ => v = V.bl true } (L2.start N [.ref a]) H := by
    obtain ⟨⟨fl, ρ'⟩, e1, e2⟩ := bind_some ok
    refine ⟨H, envV N.length [.list (ns.map PyData.int)], fl, ρ', st_vals (Same.refl H) (.cons (.lst hS (da_ints ns)) .nil), e1, fun σ' F' H' p s' => ?_⟩
    cases fl with
    | nx => cases e2
    | ret d =>
      cases e2
      exact fun v rv => by
        cases rv
        rfl
    | rof d => cases e2
    | brk => cases e2
    | cnt => cases e2
  refine codeAny_mono (R := CR CX0 [] P w H s₁ (fun v _ => v = .bl true) fun _ _ _ => False) ?_ fun r s' h => ?_
  · refine codeAny_call_function hr.depth (KX _ _ lk) rfl S.co S.gen rfl (PySem.W.codeRec_of KX hcd) (hbind s₁ (.ref a) _ _ _ _ ?_)
    refine wpAny_newFunctionEnv_cells S.kind hkind fun env he s1 x => ?_
    subst he
    refine ⟨hlim.keeps x.toInCall.keep, codeAny_func ?_⟩
    have I := inv_start (CX := CX0) (E := fun _ _ _ => False) (us := [.ref a]) (vs := [.ref a]) S hr.hd e0 rfl (.cons rfl .nil) x
    refine wpAny_mono (hbody.nox.run [] s1 (L2.start N [.ref a]) H _ I q0) (fun fl s' hs => ?_) fun e s' hs => hs
    cases fl with
    | next =>
      obtain ⟨_, _, _, q⟩ := hs
      exact q.elim
    | brk =>
      obtain ⟨_, _, _, q⟩ := hs
      exact False.elim q
    | cont =>
      obtain ⟨_, _, _, q⟩ := hs
      exact False.elim q
    | ret u =>
      obtain ⟨v, σ', H', J, rv, q⟩ := hs
      exact ⟨v, H', J.os, J.bare, J.base, J.hok, rv, q⟩
  · cases r with
    | error e => exact (show False from h).elim
    | ok fl =>
      cases fl with
      | next => exact False.elim h
      | brk => exact False.elim h
      | cont => exact False.elim h
      | ret u =>
        obtain ⟨v, H', os, bare, un, hok', rv, q⟩ := h
        have q' : v = .bl true := q
        subst q'
        obtain rfl : u = Value.bool true := rv
        refine ⟨rfl, OldK.of_keep fun b o e => ?_, os, bare⟩
        by_cases z : H b = none
        · exact un.keep b o e z (by intro y; exact absurd (show b ∈ ([] : List Addr) from y) (by simp)) (by simp)
        · rcases hO b with y | ⟨ob, xs, y⟩
          · exact absurd y z
          · have z2 := un.frzs b ob _ y
            obtain ⟨e1, _⟩ := hok b _ y
            obtain ⟨e2, _⟩ := hok' b _ z2
            rw [e] at e1
            cases e1
            exact e2
/-- the last row: a law whose own body is read where nothing is being shown -/
theorem walk_bodyM {l : PySem.W.OpenLaw} {k : Nat} {q : Program} {loose : List Str} {XP : (Str → Option Value) → Heap → Prop} {YP : World → Heap → Prop} {d : DefRec} {K : Params → PySem.W.Frag} {st : Stmt} {N : List Str} {g : Sd}
    (hi : importsNone q = true) (hn : l.most = some 63) (hdf : d.params.defaults = []) (hr : Room (k + 1) callerA) (hY : ∀ (w : World) (h : Heap), YP w h → (K w.params).In h) (S : FnScope N ["script"] (defScope st))
    (F : ∀ (w : World) (mg : Str → Option Value) (fa : Addr) (h : Heap), (K w.params).In h → h.Ns mainGlobals mg → mg d.name = some (.ref fa) → ∃ fd : FuncData, Fun (K w.params) "law" "law" st fa fd ∧ (∀ (s : Shared) (u : Value), BindsTo s fd ⟨[u], []⟩ [("script", u)]) ∧
      ∀ (base : Heap) (cdv : Value) (s : Shared) (H : Hp) (E : XK), (K w.params).In base → base.Ns mainGlobals mg → (∃ mm, base.Ns sysModules mm) → DSs (cxOf CX0 l.prog w (K w.params) mg base N "law" (defScope st) fa cdv callerA [] s H E).nox (defBody st) g)
    (ok : ∀ ns : List Int, ns.length ≤ 63 → runV N.length g [.list (ns.map PyData.int)] = some (.bool true)) : PySem.W.WalkO q loose XP YP l.row.toRowW d [] (fun f vs => PySem.call f vs) := by
  refine Att.attach_call hn hdf fun w s₀ s₁ mg mb fa o pm cd doc a vs ns G Y ho hd hcd hmg hobj hints hlen hg => ?_
  have KX := hY w _ Y
  obtain ⟨fd, hF, hb, hB⟩ := F w mg fa _ KX G.T.g hmg
  exact law_bodyM hF S KX G.T.g G.T.b G.T.builtins G.T.nolimit (let ⟨mm, h, _⟩ := (G.T.seer hi).mods; ⟨mm, h⟩) hg hobj hints hlen hr hb hB (ok ns hlen)
end
end Dn
set_option maxHeartbeats 2000000
namespace Tw
open PySem PySem.W PySem.Calls PyProof.Rows PySem.HandSPX
def iA (p1 p2 : Pos) : Arguments := { posonlyargs := [], args := [{ arg := "self", annotation := none, pos := p1 }, { arg := "message", annotation := none, pos := p2 }], vararg := none, kwonlyargs := [], kw_defaults := [], kwarg := none, defaults := [] }
def iB (q0 q1 q2 q3 q4 q5 r1 r2 r3 r4 : Pos) : List Stmt := [.Expr (.Call (.Attribute (.Call (.Name "super" q0) [] [] q1) "__init__" q2) [.Name "message" q3] [] q4) q5, .Assign [.Attribute (.Name "self" r1) "message" r2] (.Name "message" r3) r4]
def iS : Scope := { kind := .function, names := [(PySem.Str.ofString "self", .local), (PySem.Str.ofString "message", .local), (PySem.Str.ofString "__class__", .free), (PySem.Str.ofString "super", .globalImplicit)], isGenerator := false, isCoroutine := false, more := [] }
/-- what the written part says of the class n, at C, its base at T (whose __init__ is at fI) -/
structure TdTxt (P : Program) (K : Frag) (mg : Str → Option Value) (n : Str) (C T fI : Addr) : Prop where
  gC : mg n = some (.ref C)
  cls : ∃ nm q N bs bm sn sub ab col dd k0 k1 k2 k3 k5, K.lookup C = some (excClassObj nm q C N bs bm true sn sub ab col dd k0 k1 k2 k3 k5 "ValueError.__new__") ∧ refsVE bm = true
  sa : findIn K (.ref C) "__setattr__" = some (some (.builtin "object.__setattr__"))
  ga : findIn K (.ref C) "__getattribute__" = some (some (.builtin "BaseException.__getattribute__"))
  gg : findIn K (.ref C) "__getattr__" = some none
  noN : findIn K (.ref C) "message" = some none
  iC : findIn K (.ref C) "__init__" = some (some (.ref fI))
  tC : typeIn K (.ref fI) = some (.type "function")
  kC : keepIn K (.ref C) = true
  exC : subIn K (.ref C) (.type "BaseException") = some true
  veC : subIn K (.ref C) (.type "ValueError") = some true
  tyC : typeIn K (.ref C) = some (.type "type")
  hdC : hasDictIn K C = true
  isC : isClsIn K C = true
  caC : findIn K (.ref C) "__class__" = some (some (.builtin "object.__class__"))
  caN : specialIn K (.builtin "object.__class__") "__get__" = some (some (.builtin "getset_descriptor.__get__"))
  caT : takesIn K (.builtin "object.__class__") = some true
  caM : mroIn K C (.type "object") = some true
  fn : ∃ (oc : Value) (od : Option Addr) (doc pm : Value) (an : Option Addr) (cda : Addr) (ct : Value) (cc : Addr) (osl : Array (Option Value)) (p1 p2 q0 q1 q2 q3 q4 q5 r1 r2 r3 r4 : Pos),
    K.lookup fI = some ⟨oc, od, .func (ksFn "__init__" "TideweirError.__init__" (iA p1 p2) (iB q0 q1 q2 q3 q4 q5 r1 r2 r3 r4) iS .none .none doc pm an (.ref cda) ct cc), osl⟩ ∧ (q2.endLine == q4.line) = true ∧ codeIn K (.ref cda) "TideweirError.__init__" = true ∧
    (∃ ccl cdd vs ccs file tf, K.lookup cda = some ⟨ccl, cdd, .fields vs, ccs⟩ ∧ vs[2]? = some (.str file tf) ∧ ((P.main.file : Str) == file) = true) ∧
    ∃ cl cld csl, K.lookup cc = some ⟨cl, cld, .cell (some (.ref T)), csl⟩
  cT : ∃ cd, clsIn K T = some cd
  sT : mroIn K C (.ref T) = some true
  nsu : mg "super" = none
  op : nsIn K cStatics "thirdparty.any" = some none
  ksu : ks_superIn K C T "__init__" = some (some (.builtin "ValueError.__init__"))
  top : (P.main.scope.names.lookup ("super" : Str)).isSome = false
theorem one_size (v : Value) : [v].length ≤ sizeLine := by
  rw [sizeLine_eq]
  exact (by decide : 1 ≤ 16777216)
/-- what __init__ leaves of a fresh exception at x -/
structure InitEnd (h h' : Heap) (x C dx : Addr) (v : Value) : Prop where
  keep : ∀ b o, b ≠ x → h.get? b = some o → h'.get? b = some o
  obj : ∃ t1 : Addr, h'.get? x = some { cls := .ref C, dict := some dx, data := .fields #[.ref t1, .none, .none, .none, .bool false, .none] }
  dbig : h.objs.size ≤ dx
  dne : dx ≠ x
  ns : h'.Ns1 dx (fun y => if y = "message" then some v else none)
structure OwnMade (h h' : Heap) (e C d : Addr) (v : Value) : Prop where
  keep : ∀ b o, h.get? b = some o → h'.get? b = some o
  new : h.objs.size ≤ e
  obj : ∃ oe vs, h'.get? e = some oe ∧ oe.cls = .ref C ∧ oe.dict = some d ∧ oe.data = .fields vs ∧ vs[1]? = some .none
  dbig : h.objs.size ≤ d
  dne : d ≠ e
  ns : h'.Ns1 d (fun y => if y = "message" then some v else none)
section
variable {prog : Program} {w : World} {A : Around} {E : Value → Shared → Prop} {R : Result → Shared → Prop} {s : Shared} {K : Frag} {mg : Str → Option Value} {n : Str} {C Tc fI : Addr}
theorem wpAt_ldL {c : Code} {M : Model} {env : Env} {m : Str → Option Value} {x : Str} {pos : Pos} {v : Value} {Q : Value → Shared → Prop} {L : Addr} (hn : s.heap.Ns L m) (hL : env.locals = L) (hv : m x = some v) (h : Q v s)
    (hk : env.scope.kind = .function) (hl : env.kindOf x = some .local) (hd : (x == ("__debug__" : Str)) = false) : wpAny M A (eval (.Name x pos) env) Q E s := by
  subst hL
  exact wpAny_Name (wpAny_loadName_local hk hl hn hv h) hd
theorem eval_mc {o : Expr} {name : Str} {q2 q4 : Pos} {a : Expr} {env : Env} (h : (q2.endLine == q4.line) = true) (hf : methodCallForm 1 (backTo q4 (starEach [a] env)) [] = true) : eval (.Call (.Attribute o name q2) [a] [] q4) env = (do
    let ov ← attributeBase o name env (eval o env)
    standAt q2.atName
    let (f, first) ← holding [ov] (getMethod ov name (do return (← importBound o env).getD true))
    callWith q4 f first (backTo q4 (starEach [a] env)) []) := by
  show (attributeBase o name env (eval o env) >>= fun ov => standAt q2.atName >>= fun _ => methodCall o name q2 q4 env ov 1 (backTo q4 (starEach [a] env)) []) = _
  refine congrArg (bind _) (funext fun ov => congrArg (bind _) (funext fun _ => ?_))
  unfold methodCall
  rw [hf]
  have hp : methodCallPos true o env q2 q4 = pure q4 := by
    unfold methodCallPos
    rw [if_pos (by rw [h]; rfl)]
  rw [hp]
  rfl
/-- ValueError.__init__ bound to x, called -/
theorem call_mw {hp : Heap} {g : Array GenState} {d : Drawn} {tk : Nat} {os : OsState} {u x t0 : Addr} {v : Value} {nm q : Str} {N : Addr} {bs bm : List Value} {sn : List Str} {sub : List Value} {ab : Bool} {col : Option Bool} {dd : Option Addr} {k0 k1 k2 k3 k5 : Option Value} {Q : Value → Shared → Prop}
    (hC : hp.get? C = some (excClassObj nm q C N bs bm true sn sub ab col dd k0 k1 k2 k3 k5 "ValueError.__new__")) (hu : hp.get? u = some (kxs_mw "ValueError.__init__" x)) (hx : hp.get? x = some (excO C t0))
    (h : ∀ h' t1, (∀ b o, b ≠ x → hp.get? b = some o → h'.get? b = some o) → h'.get? x = some (excO C t1) → Q .none ⟨h', g, d, tk, os⟩) : wpAny (model prog w) A (call (.ref u) [v]) Q E ⟨hp, g, d, tk, os⟩ := by
  refine wpAny_call (codeAny_of_tree ?_)
  show wpAny _ A.in1 (callAny (.ref u) ⟨[v], []⟩) _ _ _
  simp only [callAny]
  refine wpAny_bind (wpAny_load hu ?_)
  simp only [kxs_mw, show (Value.type "method-wrapper" == Value.type "method" || Value.type "method-wrapper" == Value.type "builtin_function_or_method" || Value.type "method-wrapper" == Value.type "method-wrapper") = true by decide, if_true]
  refine KFB.if_so (by decide) ?_
  refine wpAny_bind (ESX.check_bound F.excBase_ValueError hC hx rfl ?_)
  refine wpAny_bind (wpAny_pure (wpAny_pure ?_))
  refine ⟨plainId_quiet F.excBase_ValueError.init.plain _, codeAny_builtin F.excBase_ValueError.initEntry ?_⟩
  exact exc_init_tree (cls := .ref C) (t0 := t0) (dv := none) (c2 := .none) (c3 := .none) (b4 := .bool false) hx (one_size v) fun h' k e _ => h h' hp.objs.size k e
theorem td_init (T : TdTxt prog K mg n C Tc fI) {x t0 : Addr} {v : Value} (X : K.In s.heap) (hg : s.heap.Ns mainGlobals mg) (hb : ∃ mb, s.heap.Ns builtinsNs mb ∧ ∀ x : Str, x ≠ "__name__" → mb x = bootBuiltins x) (hlim : s.heap.NoLimit)
    (hx : s.heap.get? x = some (excO C t0)) (hnx : K.lookup x = none) (hroom : A.depth < recursionLimit) (hq : ∀ h' tk dx, InitEnd s.heap h' x C dx v → R (.ok (.ret .none)) { s with heap := h', toks := tk }) :
    codeAny (model prog w) A (.call (.ref fI) ⟨[.ref x, v], []⟩) R s := by
  obtain ⟨oc, od, doc, pm, an, cda, ct, cc, osl, p1, p2, q0, q1, q2, q3, q4, q5, r1, r2, r3, r4, ho, hql, hcd, ⟨ccl, cdd, vs, ccs, file, tf, hcode, hvs, hfile⟩, cl, cld, csl, hcell⟩ := T.fn
  obtain ⟨nm, q, N, bs, bm, sn, sub, ab, col, dd, k0, k1, k2, k3, k5, hC, hbm⟩ := T.cls
  obtain ⟨cdT, hcT⟩ := T.cT
  obtain ⟨mb, hb1, hb2⟩ := hb
  have hcl : clsIn K C = some { name := nm, bases := bs, mro := .ref C :: bm, ns := N, qualname := q, hasDict := true, slotNames := sn, subclasses := sub, abstract := ab, collection := col, hasDel := false } := by unfold clsIn; rw [hC] <;> rfl
  have hxC : x ≠ C := fun z => by rw [z, hC] at hnx; cases hnx
  have hal : alongIn K "__init__" (((.ref C :: bm : List Value).dropWhile (· != .ref Tc)).drop 1) = some (some (.builtin "ValueError.__init__")) := by
    have z := T.ksu
    unfold ks_superIn at z
    rw [hcl] at z
    exact z
  have hD2 : ∃ oD, K.lookup Tc = some oD ∧ oD.data = .cls cdT := by
    unfold clsIn at hcT
    split at hcT
    · rename_i c d cd' sl hoo
      cases hcT
      exact ⟨_, hoo, rfl⟩
    · cases hcT
  obtain ⟨oD, hD1, hD2⟩ := hD2
  obtain ⟨hp, g, d, t, os⟩ := s
  refine ks_codeAny_call_defAt (binds := [("self", .ref x), ("message", v)]) hroom (X _ _ ho) rfl hlim (codeRec_of X hcd) rfl (BindsTo.of_eq (by first | rfl | with_unfolding_all rfl)) (show ∀ x ∈ iS.names, x.2 ≠ .cell by decide) (show ∀ y ∈ ([(("self" : Str), Value.ref x), ("message", v)] : List (Str × Value)), iS.names.lookup y.1 = some .local from locs rfl) (fun h₁ hns k => ?_) rfl rfl rfl
  have X₁ : K.In h₁ := X.keeps k
  have hx₁ := k _ _ hx
  generalize hL : hp.objs.size = L at hns ⊢
  show _root_.PySem.wpAt (model prog w) (A.deeper (ksEnv "TideweirError.__init__" iS L fI (.ref cda) cc)) (.func (iB q0 q1 q2 q3 q4 q5 r1 r2 r3 r4) (ksEnv "TideweirError.__init__" iS L fI (.ref cda) cc)) (execs (iB q0 q1 q2 q3 q4 q5 r1 r2 r3 r4) (ksEnv "TideweirError.__init__" iS L fI (.ref cda) cc)) _ _ _
  refine ks_wpAt_execs_cons (ks_wpAt_Expr_any ?_)
  refine ks_wpAt_MethodCall ?_ (eval_mc hql rfl)
  refine ks_wpAt_super_base (of := ⟨oc, od, .func (ksFn "__init__" "TideweirError.__init__" (iA p1 p2) (iB q0 q1 q2 q3 q4 q5 r1 r2 r3 r4) iS .none .none doc pm an (.ref cda) ct cc), osl⟩) rfl rfl (by decide) rfl (X₁ _ _ ho) rfl rfl rfl (X₁ _ _ hcode) rfl hvs hfile T.top ?_
  refine ks_loadName_global rfl rfl (loadGlobal_builtin (hg.keeps k) T.nsu (hb1.keeps k) ((hb2 _ (by decide)).trans (by first | exact PyProof.Rows.Boot.«super» | boot_by_name | rfl | kernel_rfl)) ⟨rfl, ?_⟩)
  refine wpAny_loadName_free rfl rfl rfl ⟨_, X₁ _ _ hcell, rfl⟩ ?_
  refine wpAny_loadName_local rfl rfl hns (by first | rfl | with_unfolding_all rfl | kernel_rfl) ?_
  refine ks_wpAny_isType_cls (X₁ _ _ hD1) hD2 ⟨rfl, ?_⟩
  refine ks_wpAny_call_super (X₁ _ _ hD1) hD2 hx₁ rfl (fun c e => by cases e) (looks_mroIn X₁ T.sT) (fun h₂ e₂ k₂ => ?_)
  have X₂ : K.In h₂ := X₁.keeps k₂
  have hx₂ := k₂ _ _ hx₁
  have hns₂ := hns.keeps k₂
  have hI : Looks (model prog w) h₂ (isInstance (.ref x) (.type "ValueError")) true := (InstAt.type (M := model prog w) (h := h₂) (x := x) (ox := excO C t0) (C := C) (od := none) ⟨hx₂, rfl, rfl, trivial⟩).andThen (looks_subIn X₂ T.veC)
  refine kxs_getMethod kxs_ValueError e₂ (looks_opaque X₂ T.op) (l₀ := .ref C :: bm) (fun A Q E s k q => wpAny_bind ((looks_clsIn X₂ hcl) A _ E s k (wpAny_pure q))) rfl X₂ hal hI hxC (by decide) ?_
  generalize hu : h₂.objs.size = u
  have kp : ∀ b o, h₂.get? b = some o → (h₂.push (kxs_mw "ValueError.__init__" x)).get? b = some o := fun b o e => Heap.get?_push_of_some _ e
  have hmu : (h₂.push (kxs_mw "ValueError.__init__" x)).get? u = some (kxs_mw "ValueError.__init__" x) := by rw [← hu]; exact Heap.get?_push_at rfl rfl
  generalize hh₃ : h₂.push (kxs_mw "ValueError.__init__" x) = h₃ at kp hmu ⊢
  have X₃ : K.In h₃ := X₂.keeps kp
  refine kxs_callWith (i := "ValueError.__init__") (x := x) rfl (evalArgs_plain ?_)
  refine Calls.spliced_cons (wpAt_ldL (c := .call .none ⟨[], []⟩) (hns₂.keeps kp) rfl (by first | rfl | with_unfolding_all rfl | kernel_rfl) (Calls.spliced_nil ⟨hmu, ?_⟩) rfl rfl (by decide))
  refine call_mw (X₃ _ _ hC) hmu (kp _ _ hx₂) fun h₄ t1 k₄ hx₄ => ?_
  have hxL : x ≠ L := by rw [← hL]; exact Nat.ne_of_lt (Heap.lt_size hx)
  have X₄ : K.In h₄ := fun a o e => k₄ a o (fun z => by rw [z, hnx] at e; cases e) (X₃ a o e)
  have hns₄ : h₄.Ns L (fun y => [(("self" : Str), Value.ref x), ("message", v)].reverse.lookup y) := by
    obtain ⟨oL, es, ep, hoL, r⟩ := (hns₂.keeps kp)
    exact ⟨oL, es, ep, k₄ _ _ (Ne.symm hxL) hoL, r⟩
  show _root_.PySem.wpAt _ _ _ (execs _ _) _ _ _
  refine ks_wpAt_execs_cons (ks_wpAt_Assign_Attr ?_ rfl)
  refine _root_.PySem.wpAt_of_wpAny ?_
  refine wpAt_ldL (c := .call .none ⟨[], []⟩) (env := ksEnv "TideweirError.__init__" iS L fI (.ref cda) cc) (x := "message") (v := v) (L := L) hns₄ rfl (by first | rfl | with_unfolding_all rfl | kernel_rfl) ?_ rfl rfl (by decide)
  refine wpAt_ldL (c := .call .none ⟨[], []⟩) (env := ksEnv "TideweirError.__init__" iS L fI (.ref cda) cc) (x := "self") (v := .ref x) (L := L) hns₄ rfl (by first | rfl | with_unfolding_all rfl | kernel_rfl) ?_ rfl rfl (by decide)
  refine set_plain X₄ (ox := excO C t1) (od := none) ⟨hx₄, rfl, rfl, trivial⟩ T.sa ?_
  refine exc_osa X₄ hx₄ hcl (show refsVE (.ref C :: bm) = true from hbm) rfl T.noN (fun h₅ tk₅ dx k₅ dn dne hx₅ hn₅ => ?_)
  show _root_.PySem.wpAt _ _ _ (execs _ _) _ _ _
  refine _root_.PySem.wpAt_of_wpAny (wpAny_execs_nil (hq h₅ tk₅ dx ⟨fun b o hb e => k₅ b o hb (k₄ b o hb (kp b o (k₂ b o (k b o e)))), ⟨_, hx₅⟩, ?_, dne, hn₅⟩))
  have z1 : hp.objs.size < h₄.objs.size := by rw [hL]; exact hns₄.lt
  exact Nat.le_of_lt (Nat.lt_of_lt_of_le z1 dn)
theorem td_made (T : TdTxt prog K mg n C Tc fI) {v : Value} (X : K.In s.heap) (hg : s.heap.Ns mainGlobals mg) (hb : ∃ mb, s.heap.Ns builtinsNs mb ∧ ∀ x : Str, x ≠ "__name__" → mb x = bootBuiltins x) (hlim : s.heap.NoLimit) (hroom : A.depth + 1 < recursionLimit)
    (hq : ∀ h' tk e d, OwnMade s.heap h' e C d v → R (.ok (.ret (.ref e))) { s with heap := h', toks := tk }) :
    codeAny (model prog w) A (.call (.ref C) ⟨[v], []⟩) R s := by
  obtain ⟨nm, q, N, bs, bm, sn, sub, ab, col, dd, k0, k1, k2, k3, k5, hC, hbm⟩ := T.cls
  obtain ⟨hp, g, dr, tk, os⟩ := s
  have k : ∀ b o, hp.get? b = some o → ((hp.push (kdv_tup [v])).push (excO C hp.objs.size)).get? b = some o := fun b o e => Heap.get?_push_of_some _ (Heap.get?_push_of_some _ e)
  have hget : ((hp.push (kdv_tup [v])).push (excO C hp.objs.size)).get? (hp.objs.size + 1) = some (excO C hp.objs.size) := by heap_get
  have hnx : K.lookup (hp.objs.size + 1) = none := by
    cases e : K.lookup (hp.objs.size + 1) with
    | none => rfl
    | some o =>
      have z : hp.get? (hp.objs.size + 1) = some o := X _ _ e
      exact absurd (Nat.lt_of_succ_lt (Heap.lt_size z)) (Nat.lt_irrefl _)
  obtain ⟨mb, hb1, hb2⟩ := hb
  refine call_own F.excBase_ValueError (fun X => refsVE_contains X bm hbm) (X _ _ hC) (looks_findIn X T.iC) (fun self => bind_fn X self T.tC) (one_size v) ?_
  refine td_init (s := ⟨(hp.push (kdv_tup [v])).push (excO C hp.objs.size), g, dr, tk, os⟩) T (X.keeps k) (hg.keeps k) ⟨mb, hb1.keeps k, hb2⟩ (hlim.keeps k) hget hnx ?_ fun h' tk' dx ⟨k', hx, dn, dne, hns⟩ => ?_
  · show A.depth + 1 < recursionLimit
    exact hroom
  · have old : ∀ b o, hp.get? b = some o → h'.get? b = some o := fun b o e => k' b o (Nat.ne_of_lt (Nat.lt_succ_of_lt (Heap.lt_size e))) (k b o e)
    have z : hp.objs.size + 1 + 1 ≤ dx := by
      first
        | (simpa only [Heap.size_push] using dn)
        | exact dn
        | (have q := dn; rw [Heap.size_push, Heap.size_push] at q; exact q)
    obtain ⟨t1, hx⟩ := hx
    exact ⟨rfl, hq h' tk' (hp.objs.size + 1) dx ⟨old, Nat.le_succ _, ⟨_, _, hx, rfl, rfl, rfl, rfl⟩, Nat.le_trans (Nat.le_trans (Nat.le_succ _) (Nat.le_succ _)) z, dne, hns⟩⟩
end
end Tw
namespace L2
open PySem PySem.Spec PyProof.Rows
theorem relO_td {v : V} {v' : Value} (r : RelV v v') (f : Str) : RelO (List.lookup f [(("message" : Str), v)]) (if f = "message" then some v' else none) := by
  by_cases hw : f = "message"
  · subst hw
    rw [if_pos rfl]
    have q : List.lookup ("message" : Str) [(("message" : Str), v)] = some v := by simp [List.lookup]
    rw [q]
    exact r
  · rw [if_neg hw]
    have qw : (f == ("message" : Str)) = false := by simpa using hw
    have q2 : List.lookup f [(("message" : Str), v)] = none := by simp [List.lookup, qw]
    rw [q2]
    trivial
section
variable {X : Cx} {C Tc fI : Addr} {n : Str}
/-- C(e) -/
def tMkTd (C : Addr) (ta : TA) : St → Hp → XK → Prop := fun σ H Q => ta σ H fun vs H1 => ∃ v, vs = [v] ∧ ∀ d, H1 d = none → Q (.ref C) (some d) (upd H1 d (.xd [(("message" : Str), v)]))
theorem pmk_td {a : Expr} {ta : TA} {p pos : Pos} {k : Nat} (T : Tw.TdTxt X.prog X.K X.mg n C Tc fI) (hr : Room k X.A) (ha : PA X [a] ta) (hg : Gl X n) (hdb : (n == ("__debug__" : Str)) = false := by decide)
    (he : starEach (a :: []) X.env = (false, eval a X.env) :: starEach [] X.env := by rfl) (hpl : (backTo pos (starEach [] X.env)).any (·.1) = false := by rfl) :
    PMk X (.Call (.Name n p) [a] [] pos) (tMkTd C ta) := by
  intro pins s σ H Q I h
  refine wpAny_Call_Name_kw (ld_glob I hg T.gC ?_ hdb)
  refine PySem.W.callWith_K (h₀ := X.base) I.ok.mod.kin T.kC (thn (ha.run pos pins s σ H _ I h) fun us s1 hh => ?_) he hpl
  obtain ⟨vs, H1, I1, r1, v, ev, q1⟩ := hh
  subst ev
  refine ⟨I1.kIn, ?_⟩
  cases r1 with
  | cons rv rn =>
    rename_i v' us'
    cases rn
    show wpAny _ _ (call (.ref C) [v']) _ _ _
    have hlim := I1.nolimit
    obtain ⟨mb, hb1, hb2⟩ := I1.ok.mod.blt
    have hgl := I1.ok.mod.glob.keeps I1.bk
    have hbl := hb1.keeps I1.bk
    obtain ⟨hp, g, dr, tk, os⟩ := s1
    refine wpAny_call (Tw.td_made T I1.kIn hgl ⟨mb, hbl, hb2⟩ hlim (by have := hr.dp; omega) fun h' tk' e d M => ?_)
    show MkP X pins σ Q (.ref e) ⟨h', g, dr, tk', os⟩
    obtain ⟨oe, fv, hoe, hc, hd, hdat, h1⟩ := M.obj
    have hns := M.ns
    obtain ⟨G', g1, g2⟩ := restrict h' fun b => decide (b ≠ e)
    have gk : ∀ b, b ≠ e → G'.get? b = h'.get? b := fun b hb => g1 b (decide_eq_true hb)
    have ge : G'.get? e = none := g2 e (by simp)
    have old : ∀ b o, hp.get? b = some o → G'.get? b = some o := fun b o q => (gk b (Nat.ne_of_lt (Nat.lt_of_lt_of_le (Heap.lt_size q) M.new))).trans (M.keep b o q)
    have ob : ObjOk X.prog X.w (upd H1 d (.xd [(("message" : Str), v)])) G' d (.xd [(("message" : Str), v)]) :=
      ⟨_, hns.at (fun o q => (gk d M.dne).trans q), fun f => relO_td rv f⟩
    have J : Inv X pins σ (upd H1 d (.xd [(("message" : Str), v)])) ⟨G', g, dr, tk', os⟩ := I1.laid (t' := tk') old M.dbig ob
    refine ⟨e, oe, fv, ⟨G', g, dr, tk', os⟩, _, .ref C, some d, rfl, J, fun b o q => ?_, ge, hoe, ⟨hc, hd⟩, hdat, h1, ?_, rfl, I1.bare, raises_own T.exC T.tyC, q1 d (I1.hok.fresh M.dbig)⟩
    · by_cases hb : b = e
      · have q' : G'.get? b = some o := q
        rw [hb, ge] at q'; cases q'
      · exact (gk b hb).symm.trans q
    · rw [upd_ne (Ne.symm M.dne)]
      exact I1.hok.fresh M.new
end
end L2
set_option maxHeartbeats 2000000
namespace Dn
open PySem PySem.Spec PyProof.Rows L2
/-- what is raised: the class by its name, the message -/
structure Xc where
  c : Str
  m : Str
abbrev Mx (α : Type) := Env → Option ((α ⊕ Xc) × Env)
def xOk {α : Type} (g : Md α) : Mx α := fun ρ => (g ρ).bind fun p => some (.inl p.1, p.2)
def xBind {α β : Type} (g : Mx α) (k : α → Mx β) : Mx β := fun ρ => (g ρ).bind fun p => match p.1 with
  | .inl a => k a p.2
  | .inr x => some (.inr x, p.2)
def xPure {α : Type} (o : Option α) : Mx α := fun ρ => o.bind fun a => some (.inl a, ρ)
def xLift {α : Type} (o : Option (α ⊕ Xc)) : Mx α := fun ρ => o.bind fun a => some (a, ρ)
abbrev xdM (m : Str) : HO := .xd [(("message" : Str), .str m)]
/-- what the wish W is told of x -/
def XcOk (mg : Str → Option Value) (W : WX) (x : Xc) (σ : L2.St) (H : Hp) : Prop := ∀ (C dd : Addr), mg x.c = some (.ref C) → H dd = some (xdM x.m) → W (.ref C) (some dd) σ H
section
variable (K : Kx) (mg : Str → Option Value) (W : WX)
def tX (g : Mx D) : TE := fun σ H Q => ∃ (F : Hp) (ρ : Env) (r : D ⊕ Xc) (ρ' : Env), St K F H σ ρ ∧ g ρ = some (r, ρ') ∧
  ∀ F' H', Stp F σ ρ H F' σ ρ' H' → St K F' H' σ ρ' → match r with
    | .inl d => ∀ v, Rp K F' v d → Q v H'
    | .inr x => XcOk mg W x σ H'
def tXA (g : Mx (List D)) : TA := fun σ H Q => ∃ (F : Hp) (ρ : Env) (r : List D ⊕ Xc) (ρ' : Env), St K F H σ ρ ∧ g ρ = some (r, ρ') ∧
  ∀ F' H', Stp F σ ρ H F' σ ρ' H' → St K F' H' σ ρ' → match r with
    | .inl ds => ∀ vs, RpAll K F' vs ds → Q vs H'
    | .inr x => XcOk mg W x σ H'
def tXT (g : Mx Bool) : TT := fun σ H Q => ∃ (F : Hp) (ρ : Env) (r : Bool ⊕ Xc) (ρ' : Env), St K F H σ ρ ∧ g ρ = some (r, ρ') ∧
  ∀ F' H', Stp F σ ρ H F' σ ρ' H' → St K F' H' σ ρ' → match r with
    | .inl b => Q b H'
    | .inr x => XcOk mg W x σ H'
/-- a statement: it may leave by an exception -/
abbrev Sx := Env → Option ((Fl ⊕ Xc) × Env)
def tXS (g : Sx) : TS := fun E σ H => ∃ (F : Hp) (ρ : Env) (r : Fl ⊕ Xc) (ρ' : Env), St K F H σ ρ ∧ g ρ = some (r, ρ') ∧
  ∀ σ' F' H', Stp F σ ρ H F' σ' ρ' H' → St K F' H' σ' ρ' → match r with
    | .inl f => FlOk K E H F' σ' H' f
    | .inr x => XcOk mg W x σ' H'
end
abbrev EX (X : Cx) (W : WX) (e : Expr) (g : Mx D) : Prop := PE X e (tX (cxK X) X.mg W g)
abbrev AX (X : Cx) (W : WX) (es : List Expr) (g : Mx (List D)) : Prop := PA X es (tXA (cxK X) X.mg W g)
abbrev TX (X : Cx) (W : WX) (e : Expr) (g : Mx Bool) : Prop := PT X e (tXT (cxK X) X.mg W g)
abbrev SX (X : Cx) (W : WX) (st : Stmt) (g : Sx) : Prop := PS X st (tXS (cxK X) X.mg W g)
abbrev SXs (X : Cx) (W : WX) (st : List Stmt) (g : Sx) : Prop := PSs X st (tXS (cxK X) X.mg W g)
section
variable {X : Cx} {W : WX} {e a b c : Expr} {es : List Expr} {pos p : Pos} {x : Str} {st : Stmt} {sts : List Stmt}
theorem ok_some {α : Type} {g : Md α} {ρ ρ' : Env} {r : α ⊕ Xc} (h : xOk g ρ = some (r, ρ')) : ∃ d, r = .inl d ∧ g ρ = some (d, ρ') := by
  obtain ⟨⟨d, ρ1⟩, e1, e2⟩ := bind_some h
  cases e2
  exact ⟨d, rfl, e1⟩
theorem xb_some {α β : Type} {g : Mx α} {k : α → Mx β} {ρ ρ' : Env} {r : β ⊕ Xc} (h : xBind g k ρ = some (r, ρ')) : (∃ d ρ1, g ρ = some (.inl d, ρ1) ∧ k d ρ1 = some (r, ρ')) ∨ ∃ x, g ρ = some (.inr x, ρ') ∧ r = .inr x := by
  obtain ⟨⟨d, ρ1⟩, e1, e2⟩ := bind_some h
  cases d with
  | inl d => exact .inl ⟨d, ρ1, e1, e2⟩
  | inr x =>
    cases e2
    exact .inr ⟨x, e1, rfl⟩
theorem xp_some {α : Type} {o : Option α} {ρ ρ' : Env} {r : α ⊕ Xc} (h : xPure o ρ = some (r, ρ')) : ∃ d, o = some d ∧ r = .inl d ∧ ρ' = ρ := by
  obtain ⟨d, e1, e2⟩ := bind_some h
  cases e2
  exact ⟨d, e1, rfl, rfl⟩
theorem xl_some {α : Type} {o : Option (α ⊕ Xc)} {ρ ρ' : Env} {r : α ⊕ Xc} (h : xLift o ρ = some (r, ρ')) : o = some r ∧ ρ' = ρ := by
  obtain ⟨d, e1, e2⟩ := bind_some h
  cases e2
  exact ⟨e1, rfl⟩
theorem ex_ok {g : Md D} (h : DE X e g) : EX X W e (xOk g) := pe_imp h fun σ H Q q => by
  obtain ⟨F, ρ, r, ρ', s, eg, k⟩ := q
  obtain ⟨d, rfl, e2⟩ := ok_some eg
  exact ⟨F, ρ, d, ρ', s, e2, fun v F' H' p s' rv => k F' H' p s' v rv⟩
theorem ax_ok {g : Md (List D)} (h : DA X es g) : AX X W es (xOk g) := pa_imp h fun σ H Q q => by
  obtain ⟨F, ρ, r, ρ', s, eg, k⟩ := q
  obtain ⟨d, rfl, e2⟩ := ok_some eg
  exact ⟨F, ρ, d, ρ', s, e2, fun v F' H' p s' rv => k F' H' p s' v rv⟩
theorem tx_ok {g : Md Bool} (h : DT X e g) : TX X W e (xOk g) := pt_imp h fun σ H Q q => by
  obtain ⟨F, ρ, r, ρ', s, eg, k⟩ := q
  obtain ⟨d, rfl, e2⟩ := ok_some eg
  exact ⟨F, ρ, d, ρ', s, e2, fun F' H' p s' => k F' H' p s'⟩
theorem sx_ok {g : Sd} (h : DS X st g) : SX X W st (xOk g) := ps_imp h fun E σ H q => by
  obtain ⟨F, ρ, r, ρ', s, eg, k⟩ := q
  obtain ⟨d, rfl, e2⟩ := ok_some eg
  exact ⟨F, ρ, d, ρ', s, e2, fun σ' F' H' p s' => k σ' F' H' p s'⟩
theorem sxs_ok {g : Sd} (h : DSs X sts g) : SXs X W sts (xOk g) := pss_imp h fun E σ H q => by
  obtain ⟨F, ρ, r, ρ', s, eg, k⟩ := q
  obtain ⟨d, rfl, e2⟩ := ok_some eg
  exact ⟨F, ρ, d, ρ', s, e2, fun σ' F' H' p s' => k σ' F' H' p s'⟩
theorem ax_nl : AX X W [] (xOk gNil) := ax_ok da_nl
def xCons (g : Mx D) (gs : Mx (List D)) : Mx (List D) := xBind g fun d => xBind gs fun ds => xPure (some (d :: ds))
theorem ax_cs {g : Mx D} {gs : Mx (List D)} (ha : EX X W e g) (hr : AX X W es gs) (hs : starEach (e :: es) X.env = (false, eval e X.env) :: starEach es X.env := by rfl) : AX X W (e :: es) (xCons g gs) :=
  pa_imp (pa_cons ha hr hs) fun σ H Q q => by
    obtain ⟨F, ρ, r, ρ', s, eg, k⟩ := q
    rcases xb_some eg with ⟨d, ρ1, e1, eg1⟩ | ⟨x, e1, rfl⟩
    · refine ⟨F, ρ, _, ρ1, s, e1, fun F1 H1 p1 s1 v r1 => ?_⟩
      rcases xb_some eg1 with ⟨ds, ρ2, e2, eg2⟩ | ⟨x, e2, rfl⟩
      · obtain ⟨_, e3, rfl, rfl⟩ := xp_some eg2
        cases e3
        exact ⟨F1, ρ1, _, _, s1, e2, fun F2 H2 p2 s2 vs r2 => k F2 H2 (p1.trans p2) s2 (v :: vs) (.cons (dp_mono p2.ff _ _ r1) r2)⟩
      · exact ⟨F1, ρ1, _, _, s1, e2, fun F2 H2 p2 s2 => k F2 H2 (p1.trans p2) s2⟩
    · exact ⟨F, ρ, _, _, s, e1, fun F1 H1 p1 s1 => k F1 H1 p1 s1⟩
/-- the promise of a def that may raise -/
def spX (K : Kx) (mg : Str → Option Value) (n : Nat) (f : List D → Option (D ⊕ Xc)) : Sp := fun vs H Q E => vs.length = n ∧ ∃ (F : Hp) (ds : List D) (r : D ⊕ Xc), Same F H ∧ RpAll K F vs ds ∧ f ds = some r ∧
  ∀ F' H', Grow F H F' H' → match r with
    | .inl d => ∀ v, Rp K F' v d → Q v H'
    | .inr x => ∀ (C dd : Addr), mg x.c = some (.ref C) → H' dd = some (xdM x.m) → E (.ref C) (some dd) H'
def xCall (f : List D → Option (D ⊕ Xc)) (gs : Mx (List D)) : Mx D := xBind gs fun ds => xLift (f ds)
def xApp (f : List D → Option D) (gs : Mx (List D)) : Mx D := xBind gs fun ds => xPure (f ds)
theorem ex_call {k n : Nat} {f : Addr} {fd : FuncData} {ps : List Str} {g : List D → Option (D ⊕ Xc)} {gs : Mx (List D)} (tk : Takes X W) (G : FnOk X.prog X.w X.K X.mg X.base (L2.CX X.prog X.w) k f fd ps (spX (cxK X) X.mg n g)) (hr : Room k X.A) (hg : Gl X x) (hm : X.mg x = some (.ref f)) (hk : PySem.W.keepIn X.K (.ref f) = true) (hb : Binds X.K fd ps [])
    (ha : AX X W (e :: es) gs) (hlen : ∀ ρ ds ρ', gs ρ = some (.inl ds, ρ') → ds.length = n)
    (hdb : (x == ("__debug__" : Str)) = false := by decide) (he : starEach (e :: es) X.env = (false, eval e X.env) :: starEach es X.env := by rfl) (hpl : (backTo pos (starEach es X.env)).any (·.1) = false := by rfl) : EX X W (.Call (.Name x p) (e :: es) [] pos) (xCall g gs) :=
  pe_imp (pe_callS (E := WE W) G hr hg hm hk hb (fun σ => passAt tk σ) ha hdb he hpl) fun σ H Q q => by
    obtain ⟨F, ρ, r, ρ', s, eg, k⟩ := q
    rcases xb_some eg with ⟨ds, ρ1, e1, eg1⟩ | ⟨x, e1, rfl⟩
    · obtain ⟨e2, rfl⟩ := xl_some eg1
      refine ⟨F, ρ, _, _, s, e1, fun F1 H1 p1 s1 vs r1 => ⟨by rw [da_len r1]; exact hlen _ _ _ e1, F1, ds, r, s1.sub, r1, e2, fun F3 H3 gr => ?_⟩⟩
      have z := k F3 H3 (p1.trans (gr.stp σ _)) (s1.grow gr)
      cases r with
      | inl d => exact z
      | inr x => exact z
    · exact ⟨F, ρ, _, _, s, e1, fun F1 H1 p1 s1 => k F1 H1 p1 s1⟩
theorem xlen_ok {gs : Md (List D)} {n : Nat} (h : ∀ ρ ds ρ', gs ρ = some (ds, ρ') → ds.length = n) : ∀ ρ ds ρ', xOk gs ρ = some (.inl ds, ρ') → ds.length = n := fun ρ ds ρ' h2 => by
  obtain ⟨d, e, e2⟩ := ok_some h2
  cases e
  exact h _ _ _ e2
theorem ex_tup {gs : Mx (List D)} {k : Nat} (h : AX X W es gs) : EX X W (.Tuple es k pos) (xApp mkTup gs) :=
  pe_imp (pe_tup h) fun σ H Q q => by
    obtain ⟨F, ρ, r, ρ', s, eg, k⟩ := q
    rcases xb_some eg with ⟨ds, ρ1, e1, eg1⟩ | ⟨x, e1, rfl⟩
    · obtain ⟨d, e2, rfl, rfl⟩ := xp_some eg1
      unfold mkTup at e2
      split at e2
      · rename_i hl
        cases e2
        refine ⟨F, ρ, _, _, s, e1, fun F1 H1 p1 s1 vs r1 => ⟨by rw [line_eq, da_len r1]; exact hl, fun p hp => ?_⟩⟩
        have gr : Grow F1 H1 (upd F1 p (.tup vs)) (upd H1 p (.tup vs)) := Grow.val s1.sub hp
        exact k _ _ (p1.trans (gr.stp σ _)) (s1.grow gr) _ (.tup (.inl (.inl upd_same)) (dpAll_mono gr.ff _ _ r1))
      · cases e2
    · exact ⟨F, ρ, _, _, s, e1, fun F1 H1 p1 s1 => k F1 H1 p1 s1⟩
def xBin (f : D → D → Option D) (ga gb : Mx D) : Mx D := xBind ga fun x => xBind gb fun y => xPure (f x y)
def xTst (g : Mx D) : Mx Bool := xBind g fun d => xPure (bOf d)
def xNot (g : Mx Bool) : Mx Bool := xBind g fun b => xPure (some !b)
def xSeq (s t : Sx) : Sx := fun ρ => (s ρ).bind fun p => match p.1 with
  | .inl .nx => t p.2
  | r => some (r, p.2)
theorem sxs_nil : SXs X W [] (xOk sNext) := sxs_ok dss_nil
theorem sxs_cons {g h : Sx} (h1 : SX X W st g) (h2 : SXs X W sts h) : SXs X W (st :: sts) (xSeq g h) := pss_imp (pss_cons h1 h2) fun E σ H q => by
  obtain ⟨F, ρ, r, ρ', s, eg, k⟩ := q
  obtain ⟨⟨f1, ρ1⟩, e1, eg1⟩ := bind_some eg
  refine ⟨F, ρ, f1, ρ1, s, e1, fun σ1 F1 H1 p1 s1 => ?_⟩
  cases f1 with
  | inr x =>
    cases eg1
    exact k σ1 F1 H1 p1 s1
  | inl f1 =>
    cases f1 with
    | nx =>
      refine ⟨F1, ρ1, r, ρ', s1, eg1, fun σ2 F2 H2 p2 s2 => ?_⟩
      have z := k σ2 F2 H2 (p1.trans p2) s2
      cases r with
      | inl f => exact fl_base z fun a n => p1.none n
      | inr x => exact z
    | ret d =>
      cases eg1
      exact k σ1 F1 H1 p1 s1
    | rof d =>
      cases eg1
      exact k σ1 F1 H1 p1 s1
    | brk =>
      cases eg1
      exact k σ1 F1 H1 p1 s1
    | cnt =>
      cases eg1
      exact k σ1 F1 H1 p1 s1
theorem sxs_one {g : Sx} (h1 : SX X W st g) : SXs X W [st] g := pss_one h1
def xIf (g : Mx Bool) (s t : Sx) : Sx := xBind g fun b => if b = true then s else t
theorem sx_if {g : Mx Bool} {s1 s2 : Sx} {as bs : List Stmt} (hc : TX X W c g) (ha : SXs X W as s1) (hb : SXs X W bs s2) : SX X W (.If c as bs pos) (xIf g s1 s2) := ps_imp (ps_if hc ha hb) fun E σ H q => by
  obtain ⟨F, ρ, r, ρ', s, eg, k⟩ := q
  rcases xb_some eg with ⟨b, ρ1, e1, eg1⟩ | ⟨x, e1, rfl⟩
  · refine ⟨F, ρ, _, ρ1, s, e1, fun F1 H1 p1 s1 => ?_⟩
    have fin : ∀ {g2 : Sx}, g2 ρ1 = some (r, ρ') → tXS (cxK X) X.mg W g2 E σ H1 := fun {g2} e2 => ⟨F1, ρ1, r, ρ', s1, e2, fun σ2 F2 H2 p2 s2 => by
      have z := k σ2 F2 H2 (p1.trans p2) s2
      cases r with
      | inl f => exact fl_base z fun a n => p1.none n
      | inr x => exact z⟩
    cases b with
    | true => exact fin eg1
    | false => exact fin eg1
  · exact ⟨F, ρ, _, _, s, e1, fun F1 H1 p1 s1 => k σ F1 H1 p1 s1⟩
def xRet (g : Mx D) : Sx := xBind g fun d => xPure (some (.ret d))
theorem sx_ret {g : Mx D} (h : EX X W e g) : SX X W (.Return (some e) pos) (xRet g) := ps_imp (ps_ret h) fun E σ H q => by
  obtain ⟨F, ρ, r, ρ', s, eg, k⟩ := q
  rcases xb_some eg with ⟨d, ρ1, e1, eg1⟩ | ⟨x, e1, rfl⟩
  · obtain ⟨z, e3, rfl, rfl⟩ := xp_some eg1
    cases e3
    exact ⟨F, ρ, _, _, s, e1, fun F1 H1 p1 s1 v rv => k σ F1 H1 p1 s1 v rv⟩
  · exact ⟨F, ρ, _, _, s, e1, fun F1 H1 p1 s1 => k σ F1 H1 p1 s1⟩
end
end Dn
set_option maxHeartbeats 2000000
namespace Dn
open PySem PySem.Spec PyProof.Rows L2
section
variable {X : Cx} {W : WX} {e a b c tg iter : Expr} {es : List Expr} {pos p : Pos} {x : Str} {st : Stmt} {sts : List Stmt}
def xDrop (g : Mx D) : Sx := xBind g fun _ => xPure (some .nx)
theorem sx_expr {g : Mx D} (h : EX X W e g) (hs : swapsWith e none pos.line X.env = pure false := by rfl) : SX X W (.Expr e pos) (xDrop g) := ps_imp (ps_expr h hs) fun E σ H q => by
  obtain ⟨F, ρ, r, ρ', s, eg, k⟩ := q
  rcases xb_some eg with ⟨d, ρ1, e1, eg1⟩ | ⟨x, e1, rfl⟩
  · obtain ⟨z, e3, rfl, rfl⟩ := xp_some eg1
    cases e3
    exact ⟨F, ρ, _, _, s, e1, fun F1 H1 p1 s1 v rv => k σ F1 H1 p1 s1⟩
  · exact ⟨F, ρ, _, _, s, e1, fun F1 H1 p1 s1 => k σ F1 H1 p1 s1⟩
def xSet (i : Nat) (g : Mx D) : Sx := xBind g fun d ρ => (setC i (.val d) ρ).bind fun r => some (.inl .nx, r)
def ownL : Option (Option Cell) → Option (Bool × List D)
  | some (some (.own b (.list ds))) => some (b, ds)
  | _ => none
theorem ownL_own {b : Bool} {ds : List D} : ownL (some (some (.own b (.list ds)))) = some (b, ds) := rfl
def xApd (i : Nat) (g : Mx D) : Sx := fun ρ => (ownL ρ[i]?).bind fun _ => xBind g (fun d ρ1 => (ownL ρ1[i]?).bind fun p => if p.2.length < 16777216 then some (.inl .nx, ρ1.set i (some (.own p.1 (.list (p.2 ++ [d]))))) else none) ρ
/-- raise n(e) -/
def xRaise (n : Str) (g : Md D) : Sx := fun ρ => (g ρ).bind fun p => match p.1 with
  | .str m => some (.inr ⟨n, m⟩, p.2)
  | _ => none
theorem sx_raise {n : Str} {C Tc fI : Addr} {g : Md D} {k : Nat} {pos2 : Pos} (hc : X.calm = true) (T : Tw.TdTxt X.prog X.K X.mg n C Tc fI) (hr : Room k X.A) (tk : Takes X W) (ha : DE X a g) (hg : Gl X n) (hdb : (n == ("__debug__" : Str)) = false := by decide)
    (he : starEach (a :: []) X.env = (false, eval a X.env) :: starEach [] X.env := by rfl) (hpl : (backTo pos (starEach [] X.env)).any (·.1) = false := by rfl) : SX X W (.Raise (some (.Call (.Name n p) [a] [] pos)) none pos2) (xRaise n g) :=
  ps_imp (ps_raise hc tk (pmk_td T hr (pa_cons ha pa_nil (by exact he)) hg hdb he hpl)) fun E σ H q => by
    obtain ⟨F, ρ, r, ρ', s, eg, k⟩ := q
    obtain ⟨⟨d, ρ1⟩, e1, eg1⟩ := bind_some eg
    cases d with
    | str m =>
      cases eg1
      refine ⟨F, ρ, _, _, s, e1, fun v F1 H1 p1 s1 r1 => ⟨v, rfl, fun dd hdd => ?_⟩⟩
      cases r1
      have gr : Grow F1 H1 F1 (upd H1 dd (xdM m)) := Grow.own s1.sub hdd
      -- the wish is told of this very object
      refine k σ F1 _ (p1.trans (gr.stp σ _)) (s1.grow gr) C dd T.gC upd_same
    | none => cases eg1
    | bool _ => cases eg1
    | int _ => cases eg1
    | list _ => cases eg1
    | tuple _ => cases eg1
    | dict _ => cases eg1
def forX (tg : D → Env → Option Env) (body : Sx) : List D → Sx
  | [] => fun ρ => some (.inl .nx, ρ)
  | d :: ds => fun ρ => (tg d ρ).bind fun ρ1 => (body ρ1).bind fun p => match p.1 with
    | .inl .nx => forX tg body ds p.2
    | .inl .cnt => forX tg body ds p.2
    | .inl .brk => some (.inl .nx, p.2)
    | .inl (.ret r) => some (.inl (.ret r), p.2)
    | .inl (.rof r) => some (.inl (.rof r), p.2)
    | .inr x => some (.inr x, p.2)
def xFor (gi : Md (List D)) (tg : D → Env → Option Env) (body : Sx) : Sx := fun ρ => (gi ρ).bind fun p => forX tg body p.1 p.2
theorem sx_for {gi : Md (List D)} {gt : D → Env → Option Env} {gb : Sx} {body : List Stmt} (hp : PassesOwn (model X.prog X.w) X.A X.env X.xe) (hc : X.calm = true) (hi : DI X tg iter gi) {is : List Nat} (hg : DG X tg is gt) (hb : SXs X W body gb) (hs : ∀ x, foldedSetIterable iter X.env x = pure x := by intro _; rfl) : SX X W (.For tg iter body [] pos) (xFor gi gt gb) :=
  ps_imp (ps_for hp hc hi hg hb hs) fun E σ H q => by
    obtain ⟨F, ρ, f, ρ', s, eg, k⟩ := q
    obtain ⟨⟨ds, ρ1⟩, e1, eg1⟩ := bind_some eg
    refine ⟨F, ρ, ds, ρ1, s, e1, fun J F1 H1 p1 s1 ok => ?_⟩
    refine ⟨fun i m σi Hi => ∃ Fi ρi, m = ds.length - i ∧ i ≤ ds.length ∧ Stp F σ ρ H Fi σi ρi Hi ∧ St (cxK X) Fi Hi σi ρi ∧ Same F1 Fi ∧ forX gt gb (ds.drop i) ρi = some (f, ρ'), ⟨ds.length, F1, ρ1, by simp, Nat.zero_le _, p1, s1, Same.refl _, by simpa using eg1⟩, ?_⟩
    rintro i m σi Hi ⟨Fi, ρi, rfl, hi, pi, si, sf, ei⟩
    by_cases hlt : i < ds.length
    · have hd : ds[i]? = some ds[i] := List.getElem?_eq_getElem hlt
      obtain ⟨ok1, _⟩ := ok Fi Hi sf si.sub i
      obtain ⟨go, yl⟩ := ok1 _ hd
      rw [drop_cons hd] at ei
      obtain ⟨ρ2, e2, ei1⟩ := bind_some ei
      obtain ⟨⟨f3, ρ3⟩, e3, ei2⟩ := bind_some ei1
      refine .inr ⟨go, fun σ' H' => ∃ F' ρ'', Stp F σ ρ H F' σ' ρ'' H' ∧ St (cxK X) F' H' σ' ρ'' ∧ Same F1 F' ∧ forX gt gb (ds.drop (i + 1)) ρ'' = some (f, ρ'), fun σ' H' ⟨F', ρ'', h1, h2, h3, h4⟩ => ⟨ds.length - (i + 1), by omega, F', ρ'', rfl, hlt, h1, h2, h3, h4⟩, fun v H' hy => ?_⟩
      obtain ⟨F', gr, rv⟩ := yl v H' hy
      have p' := pi.trans (gr.stp σi ρi)
      refine ⟨F', ρi, _, ρ2, si.grow gr, rv, e2, fun σ2 F2 H2 p2 s2 _ => ⟨F2, ρ2, f3, ρ3, s2, e3, fun σ3 F3 H3 p3 s3 => ?_⟩⟩
      have pp := p'.trans (p2.trans p3)
      have sff := sf.trans (gr.ff.trans (p2.ff.trans p3.ff))
      cases f3 with
      | inr x =>
        cases ei2
        exact k σ3 F3 H3 pp s3
      | inl f3 =>
        cases f3 with
        | nx => exact ⟨F3, ρ3, pp, s3, sff, ei2⟩
        | cnt => exact ⟨F3, ρ3, pp, s3, sff, ei2⟩
        | brk =>
          cases ei2
          exact k σ3 F3 H3 pp s3
        | ret r =>
          cases ei2
          exact k σ3 F3 H3 pp s3
        | rof r =>
          cases ei2
          exact fl_base (k σ3 F3 H3 pp s3) fun _ n => p'.none (p2.none n)
    · have hl : i = ds.length := by omega
      obtain ⟨_, st⟩ := ok Fi Hi sf si.sub i
      rw [List.drop_of_length_le (by omega)] at ei
      cases ei
      exact .inl ⟨st (by omega), k σi Fi Hi pi si⟩
end
def endX : (Fl ⊕ Xc) × Env → Option (D ⊕ Xc)
  | (.inl .nx, _) => some (.inl .none)
  | (.inl (.ret d), _) => some (.inl d)
  | (.inr x, _) => some (.inr x)
  | _ => none
def runX (N : Nat) (g : Sx) (ds : List D) : Option (D ⊕ Xc) := (g (envV N ds)).bind endX
section
variable {P : Program} {w : World} {K : PySem.W.Frag} {mg : Str → Option Value} {base : Heap}
theorem fn_X {x qual : Str} {st : Stmt} {f : Addr} {fd : FuncData} {N ps : List Str} {k : Nat} {g : Sx} (Fn : Fun K x qual st f fd) (S : FnScope N ps (defScope st))
    (hbody : ∀ (cdv : Value) (A : Around) (outer : List PySem.Env) (s : Shared) (H : Hp) (E : XK), Room k (A.deeper (envOfC qual (defScope st) s.heap.objs.size f cdv)) → SXs (cxOf (L2.CX P w) P w K mg base N qual (defScope st) f cdv A outer s H E) (fun cls d _ H => E cls d H) (defBody st) g) :
    FnOk P w K mg base (L2.CX P w) (k + 1) f fd ps (spX ⟨K, P, w⟩ mg ps.length (runX N.length g)) := by
  refine Fn.okX S (fun vs H Q E h => h.1) fun cdv A outer s H vs Q E hr h => ⟨_, hbody cdv A outer s H E hr, ?_⟩
  obtain ⟨_, F, ds, r, sf, hd, ef, k⟩ := h
  obtain ⟨⟨fl, ρ'⟩, e1, e2⟩ := bind_some ef
  refine ⟨F, envV N.length ds, fl, ρ', st_vals sf hd, e1, fun σ' F' H' p s' => ?_⟩
  have gr := stp_grow p s'
  cases fl with
  | inr x =>
    cases e2
    exact k F' H' gr
  | inl fl =>
    cases fl with
    | nx =>
      cases e2
      exact k F' H' gr .non .non
    | ret d =>
      cases e2
      exact fun v rv => k F' H' gr v rv
    | rof d => cases e2
    | brk => cases e2
    | cnt => cases e2
end
section
variable {X : Cx} {W : WX} {x n : Str} {c : Value} {i : Nat} {body suite : List Stmt} {b₀ : Stmt} {np pos pos' : Pos}
/-- a wish kept from an earlier heap -/
def xTry (h : Str → Option Bool) (gb : Sx) (gs : Xc → Sd) : Sx := fun ρ => (gb ρ).bind fun p => match p.1 with
  | .inl f => some (.inl f, p.2)
  | .inr x => (h x.c).bind fun b => if b = true then xOk (gs x) p.2 else some (.inr x, p.2)
/-- try: body / except x: suite -/
theorem sx_try {h : Str → Option Bool} {gb : Sx} {gs : Xc → Sd} (hs : X.stack = X.env :: X.outer) (hf : X.env.frame = some X.env.locals) (hc : Names X x c) (tk : Takes X W)
    (hh : ∀ (cn : Str) (C : Addr) (b : Bool), h cn = some b → X.mg cn = some (.ref C) → PySem.W.exmOne X.K (.ref C) c = some b)
    (hb : ∀ (W : WX) (pn : List (Addr × Obj)) (xe : Value → Shared → Prop), Takes (X.tr pn xe) W → PassesOwn (model X.prog X.w) X.A X.env xe → SXs (X.tr pn xe) W body gb)
    (hsu : ∀ (xc : Xc) (a : Addr) (oe : Obj) (cls : Value) (d : Option Addr) (pn : List (Addr × Obj)), h xc.c = some true → Zc cls d oe → (∃ vs, oe.data = .fields vs) → DSs (X.suite a ((a, oe) :: pn)) (b₀ :: suite) (gs xc)) :
    SX X W (.Try body [.ExceptHandler (some (.Name x np)) none (b₀ :: suite) pos'] [] [] pos) (xTry h gb gs) := by
  refine ps_imp (ps_try_only (tb := fun V => tXS (cxK X) X.mg V gb) (ts := fun a cls d E σ H => ∃ xc : Xc, h xc.c = some true ∧ tDS (cxK X) (gs xc) E σ H) (Wout := W) hs hf hc tk hb fun a oe cls d pn hz hv => ?_) fun E σ H q => ?_
  · refine ⟨fun pins s σ H D I q => ?_⟩
    obtain ⟨xc, e, q⟩ := q
    exact (hsu xc a oe cls d pn e hz hv).run pins s σ H D I q
  · obtain ⟨F, ρ, r, ρ', s, eg, k⟩ := q
    obtain ⟨⟨f, ρ1⟩, e1, eg1⟩ := bind_some eg
    refine ⟨F, ρ, f, ρ1, s, e1, fun σ1 F1 H1 p1 s1 => ?_⟩
    cases f with
    | inl f =>
      cases eg1
      exact k σ1 F1 H1 p1 s1
    | inr xc =>
      obtain ⟨b, e2, eg2⟩ := bind_some eg1
      intro C dd hC hd
      refine ⟨b, hh _ _ _ e2 hC, fun hb a na => ?_, fun hb => ?_⟩
      · subst hb
        have eg3 : xOk (gs xc) ρ1 = some (r, ρ') := eg2
        obtain ⟨f, rfl, e4⟩ := ok_some eg3
        exact ⟨xc, e2, F1, ρ1, f, ρ', s1, e4, fun σ2 F2 H2 p2 s2 => fl_base (k σ2 F2 H2 (p1.trans p2) s2) fun _ n => p1.none n⟩
      · subst hb
        have eg3 : some ((.inr xc : Fl ⊕ Xc), ρ1) = some (r, ρ') := eg2
        cases eg3
        exact k σ1 F1 H1 p1 s1 C dd hC hd
end
end Dn
set_option maxHeartbeats 2000000
namespace Dn
open PySem PySem.Spec PyProof.Rows L2
section
variable (K : Kx) (i : Nat) (a dd : Addr) (m : Str)
def tMS (g : Sd) : TS := fun E σ H => σ[i]? = some (some (.ref a)) ∧ ∃ (F : Hp) (ρ : Env) (f : Fl) (ρ' : Env), St K F H σ ρ ∧ H dd = some (xdM m) ∧ g ρ = some (f, ρ') ∧
  ∀ σ' F' H', Stp F σ ρ H F' σ' ρ' H' → St K F' H' σ' ρ' → FlOk K E H F' σ' H' f
end
abbrev MSs (Y : Cx) (i : Nat) (a dd : Addr) (m : Str) (e : List Stmt) (g : Sd) : Prop := PSs Y e (tMS (cxK Y) i a dd m g)
section
variable {X : Cx} {W : WX} {x n : Str} {c : Value} {i : Nat} {body suite : List Stmt} {b₀ : Stmt} {np pos pos' : Pos}
def clearS (i : Nat) (g : Sd) : Sd := fun ρ => if notOwn ρ i = true ∧ i < ρ.length then (g (ρ.set i none)).bind fun p => match p.1 with
  | .ret d => some (.ret d, p.2)
  | _ => none else none
/-- try: body / except x as n: suite, the suite returning -/
def xTryA (i : Nat) (h : Str → Option Bool) (gb : Sx) (gs : Xc → Sd) : Sx := xTry h gb (fun x => clearS i (gs x))
/-- a def's body that may raise, where nothing of it leaves -/
def noX (g : Sx) : Sd := fun ρ => (g ρ).bind fun p => match p.1 with
  | .inl f => some (f, p.2)
  | .inr _ => none
theorem ds_noX {st : Stmt} {g : Sx} (h : SX X (fun _ _ _ _ => False) st g) : DS X st (noX g) := ps_imp h fun E σ H q => by
  obtain ⟨F, ρ, f, ρ', s, eg, k⟩ := q
  obtain ⟨⟨f1, ρ1⟩, e1, eg1⟩ := bind_some eg
  cases f1 with
  | inl f1 =>
    cases eg1
    exact ⟨F, ρ, _, _, s, e1, fun σ1 F1 H1 p1 s1 => k σ1 F1 H1 p1 s1⟩
  | inr x => cases eg1
end
end Dn
set_option maxHeartbeats 2000000
namespace Dn
open PySem PySem.Spec PyProof.Rows L2
def hL (l : List (Str × Bool × (Str → Sd))) (c : Str) : Option Bool := (l.lookup c).map (·.1)
def sNo : Sd := fun _ => none
def gL (l : List (Str × Bool × (Str → Sd))) (xc : Xc) : Sd := match l.lookup xc.c with
  | some p => p.2 xc.m
  | none => sNo
theorem takes0 {X : Cx} : Takes X (fun _ _ _ _ => False) := fun _ _ x => by
  obtain ⟨_, _, _, _, _, _, _, _, _, _, _, _, _, _, _, _, z⟩ := x
  exact z.elim
section
variable {X : Cx} {W : WX} {x n : Str} {c : Value} {i : Nat} {body suite : List Stmt} {b₀ : Stmt} {np pos pos' : Pos}
/-- except x as n -/
inductive HA (X : Cx) (i : Nat) (c : Value) (ss : List Stmt) : List (Str × Bool × (Str → Sd)) → Prop
  | nil : HA X i c ss []
  | no {n : Str} {C : Addr} {g : Str → Sd} {r : List (Str × Bool × (Str → Sd))} (gC : X.mg n = some (.ref C)) (ex : PySem.W.exmOne X.K (.ref C) c = some false) (h : HA X i c ss r) : HA X i c ss ((n, false, g) :: r)
  | yes {n : Str} {C : Addr} {g : Str → Sd} {r : List (Str × Bool × (Str → Sd))} (gC : X.mg n = some (.ref C)) (ex : PySem.W.exmOne X.K (.ref C) c = some true)
      (su : ∀ (m : Str) (a dd : Addr) (oe : Obj) (pn : List (Addr × Obj)), Zc (.ref C) (some dd) oe → (∃ vs, oe.data = .fields vs) → MSs (X.suite a ((a, oe) :: pn)) i a dd m ss (g m)) (h : HA X i c ss r) : HA X i c ss ((n, true, g) :: r)
theorem lookup_hd {β : Type} {k n : Str} {v : β} {l : List (Str × β)} : ((n, v) :: l).lookup k = if k = n then some v else l.lookup k := by
  by_cases h : k = n
  · subst h
    simp [List.lookup]
  · have e : (k == n) = false := by simpa using h
    rw [if_neg h]
    simp [List.lookup, e]
theorem HA.hh {ss : List Stmt} {l : List (Str × Bool × (Str → Sd))} (h : HA X i c ss l) (cn : Str) (C : Addr) (b : Bool) (e : hL l cn = some b) (hm : X.mg cn = some (.ref C)) : PySem.W.exmOne X.K (.ref C) c = some b := by
  induction h with
  | nil => cases e
  | @no n C' g r gC ex _ ih =>
    unfold hL at e
    rw [lookup_hd] at e
    by_cases q : cn = n
    · subst q
      rw [if_pos rfl] at e
      cases e
      rw [gC] at hm
      cases hm
      exact ex
    · rw [if_neg q] at e
      exact ih e
  | @yes n C' g r gC ex _ _ ih =>
    unfold hL at e
    rw [lookup_hd] at e
    by_cases q : cn = n
    · subst q
      rw [if_pos rfl] at e
      cases e
      rw [gC] at hm
      cases hm
      exact ex
    · rw [if_neg q] at e
      exact ih e
theorem HA.su {ss : List Stmt} {l : List (Str × Bool × (Str → Sd))} (h : HA X i c ss l) (xc : Xc) (C a dd : Addr) (oe : Obj) (pn : List (Addr × Obj)) (e : hL l xc.c = some true) (hm : X.mg xc.c = some (.ref C)) (hz : Zc (.ref C) (some dd) oe) (hf : ∃ vs, oe.data = .fields vs) : MSs (X.suite a ((a, oe) :: pn)) i a dd xc.m ss (gL l xc) := by
  induction h with
  | nil => cases e
  | @no n C' g r gC ex _ ih =>
    unfold hL at e
    unfold gL
    rw [lookup_hd] at e ⊢
    by_cases q : xc.c = n
    · rw [if_pos q] at e
      cases e
    · rw [if_neg q] at e ⊢
      exact ih e
  | @yes n C' g r gC ex su _ ih =>
    unfold hL at e
    unfold gL
    rw [lookup_hd] at e ⊢
    by_cases q : xc.c = n
    · rw [if_pos q]
      rw [q, gC] at hm
      cases hm
      exact su xc.m a dd oe pn hz hf
    · rw [if_neg q] at e ⊢
      exact ih e
/-- except x -/
inductive HB (X : Cx) (c : Value) (ss : List Stmt) : List (Str × Bool × (Str → Sd)) → Prop
  | nil : HB X c ss []
  | no {n : Str} {C : Addr} {g : Str → Sd} {r : List (Str × Bool × (Str → Sd))} (gC : X.mg n = some (.ref C)) (ex : PySem.W.exmOne X.K (.ref C) c = some false) (h : HB X c ss r) : HB X c ss ((n, false, g) :: r)
  | yes {n : Str} {C : Addr} {g : Str → Sd} {r : List (Str × Bool × (Str → Sd))} (gC : X.mg n = some (.ref C)) (ex : PySem.W.exmOne X.K (.ref C) c = some true)
      (su : ∀ (m : Str) (a : Addr) (oe : Obj) (pn : List (Addr × Obj)), DSs (X.suite a ((a, oe) :: pn)) ss (g m)) (h : HB X c ss r) : HB X c ss ((n, true, g) :: r)
theorem HB.hh {ss : List Stmt} {l : List (Str × Bool × (Str → Sd))} (h : HB X c ss l) (cn : Str) (C : Addr) (b : Bool) (e : hL l cn = some b) (hm : X.mg cn = some (.ref C)) : PySem.W.exmOne X.K (.ref C) c = some b := by
  induction h with
  | nil => cases e
  | @no n C' g r gC ex _ ih =>
    unfold hL at e
    rw [lookup_hd] at e
    by_cases q : cn = n
    · subst q
      rw [if_pos rfl] at e
      cases e
      rw [gC] at hm
      cases hm
      exact ex
    · rw [if_neg q] at e
      exact ih e
  | @yes n C' g r gC ex _ _ ih =>
    unfold hL at e
    rw [lookup_hd] at e
    by_cases q : cn = n
    · subst q
      rw [if_pos rfl] at e
      cases e
      rw [gC] at hm
      cases hm
      exact ex
    · rw [if_neg q] at e
      exact ih e
theorem HB.su {ss : List Stmt} {l : List (Str × Bool × (Str → Sd))} (h : HB X c ss l) (xc : Xc) (a : Addr) (oe : Obj) (pn : List (Addr × Obj)) (e : hL l xc.c = some true) : DSs (X.suite a ((a, oe) :: pn)) ss (gL l xc) := by
  induction h with
  | nil => cases e
  | @no n C' g r gC ex _ ih =>
    unfold hL at e
    unfold gL
    rw [lookup_hd] at e ⊢
    by_cases q : xc.c = n
    · rw [if_pos q] at e
      cases e
    · rw [if_neg q] at e ⊢
      exact ih e
  | @yes n C' g r gC ex su _ ih =>
    unfold hL at e
    unfold gL
    rw [lookup_hd] at e ⊢
    by_cases q : xc.c = n
    · rw [if_pos q]
      exact su xc.m a oe pn
    · rw [if_neg q] at e ⊢
      exact ih e
theorem sx_tryB {l : List (Str × Bool × (Str → Sd))} {gb : Sx} (hs : X.stack = X.env :: X.outer) (hf : X.env.frame = some X.env.locals) (hc : Names X x c) (tk : Takes X W)
    (hb : ∀ (W : WX) (pn : List (Addr × Obj)) (xe : Value → Shared → Prop), Takes (X.tr pn xe) W → PassesOwn (model X.prog X.w) X.A X.env xe → SXs (X.tr pn xe) W body gb) (hl : HB X c (b₀ :: suite) l) :
    SX X W (.Try body [.ExceptHandler (some (.Name x np)) none (b₀ :: suite) pos'] [] [] pos) (xTry (hL l) gb (gL l)) :=
  sx_try hs hf hc tk hl.hh hb fun xc a oe cls d pn e _ _ => hl.su xc a oe pn e
end
end Dn
set_option maxHeartbeats 2000000
namespace Dn
open PySem PySem.Spec PyProof.Rows L2
section
variable {M : Model} {A : Around} {E : Value → Shared → Prop} {s : Shared} {env : PySem.Env}
/-- behind a comprehension's block: what PyProof's compPost says, and the block's frame -/
def postF (M : Model) (A : Around) (E : Value → Shared → Prop) (use : Option (Value → Sem Unit)) (Q : Value → Shared → Prop) (acc : Value) (C : Addr) (fr : Option Addr) (r : Result) (s' : Shared) : Prop :=
  match r, use with
  | .ok _, none => ∃ m, s'.heap.Ns C m ∧ ∀ h', Heap.SameBut C s'.heap h' → Q acc { s' with heap := h' }
  | .ok _, some u => wpAny M A (u acc) (fun _ s'' => ∃ m, s''.heap.Ns C m ∧ ∀ h', Heap.SameBut C s''.heap h' → Q .none { s'' with heap := h' }) E s'
  | .error x, _ => ∃ m, s'.heap.Ns C m ∧ ∀ h', Heap.SameBut C s'.heap h' → ∀ cenv : PySem.Env, cenv.locals = C → cenv.frame = fr → wpAny M A (PySem.passOn "comprehension.variables-let-go" x cenv : Sem Value) (fun _ _ => False) E { s' with heap := h' }
theorem comp_freeF {e : Expr} {scope : Scope} {pos : Pos} {newAcc first : Sem Value} {g : Comprehension} {gs : List Comprehension} {cl : List (Str × Addr)} {use : Option (Value → Sem Unit)}
    {Q : Value → Shared → Prop}
    (hcl : clausesOf e = g :: gs) (hs : ∀ x, foldedSetIterable g.iter env x = pure x) (hclos : closureFor scope env = pure cl)
    (hkind : scope.kind = .function) (hnames : ∀ x ∈ scope.names, x.2 = .local → scope.names.lookup x.1 = some .local)
    (h : wpAny M A first (fun x s₁ => wpAny M A (pyIter x) (fun it s₂ => wpAny M A newAcc (fun acc s₃ =>
      wpAny M A (newFunctionEnv scope env.globals cl [] env.qual none .none (some env)) (fun cenv s₄ =>
        codeAny M A (.compStart e 0 it acc { cenv with scope := relabel scope env }) (postF M A E use Q acc cenv.locals cenv.frame) s₄) E s₃) E s₂) E s₁) E s) :
    wpAny M A (comprehension e scope env pos newAcc false first use) Q E s := by
  unfold comprehension
  rw [hclos, hcl]
  refine wpAny_bind (wpAny_mono h (fun x s₁ h₁ => wpAny_bind (wpAny_standAt (wpAny_bind (wpAny_of_eq (hs x) (wpAny_bind (wpAny_holding (wpAny_mono h₁ (fun it s₂ h₂ =>
    wpAny_standIf (wpAny_bind (wpAny_mono h₂ (fun acc s₃ h₃ => wpAny_bind (wpAny_pure (wpAny_bind (wpAny_mono h₃ (fun cenv s₄ h₄ => ?_) fun _ _ h' => h')))) fun _ _ h' => h')))
      fun _ _ h' => h'))))))) fun _ _ h' => h')
  dsimp only
  have hv : ∀ x ∈ (scope.names.filter fun x => (x.2 == .local || x.2 == .cell) && x.1 != (".0" : Str)).reverse, x.2 = .local →
      Env.kindOf { cenv with scope := relabel scope env } x.1 = some .local := fun x hx hl => lookup_relabel_local (hnames x (List.mem_filter.mp (List.mem_reverse.mp hx)).1 hl)
  have hv' : ∀ x ∈ (scope.names.filter fun x => (x.2 == .local || x.2 == .cell) && x.1 != (".0" : Str)).reverse.drop 1 ++ (scope.names.filter fun x => (x.2 == .local || x.2 == .cell) && x.1 != (".0" : Str)).reverse.take 1,
      x.2 = .local → Env.kindOf { cenv with scope := relabel scope env } x.1 = some .local := fun x hx hl => by
    rcases List.mem_append.mp hx with h1 | h1
    · exact hv x (List.mem_of_mem_drop h1) hl
    · exact hv x (List.mem_of_mem_take h1) hl
  refine wpAny_holding (wpAny_bind (wpAny_attempt (wpAny_holding (wpAny_run (codeAny_mono h₄ fun r s' hr => ?_)))))
  cases r with
  | ok f =>
    cases use with
    | none =>
      obtain ⟨m, hn, hr⟩ := hr
      exact wpAny_bind (wpAny_holding (wpAny_comp_letGo (cenv := { cenv with scope := relabel scope env }) hkind _ s' m hv hn fun h' m' _ hs' => wpAny_pure (hr h' hs')))
    | some u =>
      refine wpAny_bind (wpAny_rule (wpAny_bind (wpAny_holding (wpAny_mono hr (fun _ s'' hr' => ?_) fun _ _ h' => h'))))
      obtain ⟨m, hn, hr'⟩ := hr'
      exact wpAny_bind (wpAny_comp_letGo (cenv := { cenv with scope := relabel scope env }) hkind _ s'' m hv' hn fun h' m' _ hs' => wpAny_pure (hr' h' hs'))
  | error x =>
    have hr' : ∃ m, s'.heap.Ns cenv.locals m ∧ ∀ h', Heap.SameBut cenv.locals s'.heap h' → ∀ cenv' : PySem.Env, cenv'.locals = cenv.locals → cenv'.frame = cenv.frame → wpAny M A (PySem.passOn "comprehension.variables-let-go" x cenv' : Sem Value) (fun _ _ => False) E { s' with heap := h' } := by cases use <;> exact hr
    obtain ⟨m, hn, hr⟩ := hr'
    exact wpAny_bind (wpAny_holding (wpAny_comp_letGo (cenv := { cenv with scope := relabel scope env }) hkind _ s' m hv hn fun h' m' _ hs' => wpAny_mono (hr h' hs' _ rfl rfl) (fun _ _ f => f.elim) fun _ _ y => y))
end
/-- the block's context, with a wish of its own -/
abbrev blkX (X : Cx) (s : Shared) (H : Hp) (scope : Scope) (cenv : PySem.Env) (fp : List Addr) (xe : Value → Shared → Prop) : Cx := { X with s_0 := s, H_0 := H, env := cenv, outer := X.stack, ex := fp, fn := fun x => scope.names.lookup x == some .cell, pn := [], xe := xe }
theorem inv_xe {X : Cx} {xe : Value → Shared → Prop} {pins : List (Addr × Obj)} {σ : L2.St} {H : Hp} {s : Shared} (I : Inv X pins σ H s) : Inv { X with xe := xe } pins σ H s :=
  ⟨⟨I.ok.mod, I.ok.kind, I.ok.glob, I.ok.blt, I.ok.above, I.ok.inj, I.ok.has, I.ok.cab, I.ok.hd, I.ok.frames, I.ok.stk, I.ok.exf, I.ok.bs, I.ok.bsz, I.ok.noex, I.ok.exfs, I.ok.funs, I.ok.frf⟩, I.os, I.bare, I.base, I.loc, I.cell, I.free, I.freeC, I.pin, I.hok, I.len⟩
theorem note_eq {u : Value} {env env' : PySem.Env} (h : env.frame = env'.frame) : noteFrame u env = noteFrame u env' := by
  unfold noteFrame PySem.frameOf
  rw [h]
theorem funFrames_at {B h h' : Heap} : ∀ {l : List PySem.Env}, h.FunFrames B l → (∀ b ∈ frs l, h'.get? b = h.get? b) → h'.FunFrames B l
  | [], _, _ => trivial
  | env :: l, h, hn => by
    obtain ⟨hk, ⟨L, o, hf, hb, ho, hd⟩, hr⟩ := h
    exact ⟨hk, ⟨L, o, hf, hb, (hn L (List.mem_filterMap.mpr ⟨env, List.mem_cons_self, hf⟩)).trans ho, hd⟩, funFrames_at hr fun b hb => by
      obtain ⟨e, he, q⟩ := List.mem_filterMap.mp hb
      exact hn b (List.mem_filterMap.mpr ⟨e, List.mem_cons_of_mem _ he, q⟩)⟩
section
variable {X : Cx} {pins : List (Addr × Obj)} {σ : L2.St} {H : Hp} {s s' : Shared} {E : XK}
/-- a call's exception: in flight over X's frames, over a state without it -/
theorem fly_of_call (I : Inv X pins σ H s) {u : Value} (c : L2.CX X.prog X.w X.stack H s E u s') :
    ∃ (a : Addr) (B : Heap) (sI : Shared) (H' : Hp) (cls : Value) (d : Option Addr), u = .ref a ∧ Inv X pins σ H' sI ∧ (∀ b o, sI.heap.get? b = some o → b ∉ frs X.stack → B.get? b = some o) ∧ sI.heap.UpToSlots s'.heap ∧
      HandSPX.FlyingZ B X.stack a (Zc cls d) s'.heap ∧ H' a = none ∧ s'.os = sI.os ∧ AllBare s'.gens ∧ E cls d H' := by
  obtain ⟨a, B, H', cls, d, rfl, fl, hok, ub, na, os, ag, hE⟩ := c
  obtain ⟨G, g1, g2⟩ := restrict s'.heap fun b => (B.get? b).isSome || decide (b ∈ frs X.stack)
  have st : B.StaysIn s'.heap := fl.1
  have gB : ∀ b o, B.get? b = some o → G.get? b = some o := fun b o e => by
    rw [g1 b (by simp [e])]
    exact st b o e
  have gF : ∀ b, b ∈ frs X.stack → G.get? b = s'.heap.get? b := fun b hb => g1 b (by simp [hb])
  have og : ∀ b o, G.get? b = some o → s'.heap.get? b = some o ∧ ((B.get? b).isSome = true ∨ b ∈ frs X.stack) := fun b o e => by
    cases q : ((B.get? b).isSome || decide (b ∈ frs X.stack)) with
    | false => rw [g2 b q] at e; cases e
    | true =>
      rw [g1 b q] at e
      exact ⟨e, by simpa [Bool.or_eq_true] using q⟩
  refine ⟨a, B, { s with heap := G, gens := s'.gens, drawn := s'.drawn, toks := s'.toks }, H', cls, d, rfl, ?_, fun b o e hb => ?_, Heap.UpToSlots.of_keeps fun b o e => (og b o e).1, fl, na, os, ag, hE⟩
  · refine I.call (ch := []) ⟨fun b o e n hb _ => gB b o (ub.keep b o e n hb), fun b o e n hb _ => ?_, fun b o e n _ => ub.free b o e n, fun b o e _ => ?_, ub.tups, ub.frzs, ub.tbls⟩ (hok.kept gB) ag (fun _ z => nomatch z)
    · obtain ⟨sl, q⟩ := ub.slot b o e hb
      exact ⟨sl, by rw [gF b hb]; exact q⟩
    · by_cases hb : b ∈ frs X.stack
      · obtain ⟨sl, q⟩ := ub.slot b o e hb
        exact ⟨_, by rw [gF b hb]; exact q⟩
      · obtain ⟨o', q⟩ := ub.there b o e hb
        exact ⟨o', gB b o' q⟩
  · obtain ⟨e', h⟩ := og b o e
    rcases h with h | h
    · obtain ⟨o', q⟩ := Option.isSome_iff_exists.mp h
      have z := st b o' q
      rw [e'] at z; cases z
      exact q
    · exact absurd h hb
/-- an exception out of a call within the block: noted in the frame, the block's variables let go, passed on -/
theorem block_out {W : WX} {s3 : Shared} {H3 : Hp} {scope : Scope} {ce : PySem.Env} {fp : List Addr} {xe : Value → Shared → Prop} {pinsB : List (Addr × Obj)} {σ5 : L2.St} {H5 : Hp} {s5 s6 : Shared} {use : Option (Value → Sem Unit)} {Qf : Value → Shared → Prop} {acc : Value} {u : Value}
    (tk : Takes X W) (hst : X.stack = X.env :: X.outer) (hf : X.env.frame = some X.env.locals) (I3 : Inv X pins σ H3 s3) (cL : ce.locals = s3.heap.objs.size) (cF : ce.frame = X.env.frame) (hfp : ∀ b ∈ fp, FpOk X pins H3 b)
    (I5 : Inv (blkX X s3 H3 scope ce fp xe) pinsB σ5 H5 s5) (c : L2.CX X.prog X.w X.stack H5 s5 (fun cls d H => W cls d σ H) u s6) :
    notedBy (model X.prog X.w) X.A ce (fun e s' => postF (model X.prog X.w) X.A X.xe use Qf acc s3.heap.objs.size X.env.frame (.error e) s') u s6 := by
  obtain ⟨a, B, sI, H', cls, d, rfl, II, nb, up, fl, na, os, ag, hW⟩ := fly_of_call (X := blkX X s3 H3 scope ce fp xe) I5 c
  have hfr : X.A.frames = some (X.env :: X.outer) := by rw [I3.ok.frames, hst]
  have fl : HandSPX.FlyingZ B (X.env :: X.outer) a (Zc cls d) s6.heap := by rw [← hst]; exact fl
  unfold notedBy
  rw [note_eq cF]
  refine HandSPX.looks_onZ Zc.steady hfr hf fl fun h1 held up1 => ?_
  -- the block's variables
  obtain ⟨m, hn, _⟩ := II.loc
  have hn : sI.heap.Ns ce.locals m := hn
  rw [cL] at hn
  obtain ⟨oC, es, ep, hC, hd, hk⟩ := hn
  have nf : ∀ vs, oC.data ≠ .fields vs := fun vs z => by rw [hd] at z; cases z
  obtain ⟨sl1, e1⟩ := up _ _ hC nf
  obtain ⟨sl2, e2⟩ := up1 _ _ e1 nf
  have nC3 : H3 s3.heap.objs.size = none := I3.hok.fresh (Nat.le_refl _)
  have fC := I3.fpOk (Nat.le_refl _) nC3
  have Cst : s3.heap.objs.size ∉ frs X.stack := fun z => by
    rcases List.mem_cons.mp (I3.stkSub _ z) with y | y
    · exact fC.2.1 y
    · exact fC.2.2.1 y
  have nC : H' s3.heap.objs.size = none := by
    have z : H' ce.locals = none := II.free
    rw [cL] at z
    exact z
  have BC : B.get? s3.heap.objs.size = some oC := nb _ _ hC Cst
  have aC : a ≠ s3.heap.objs.size := fun z => by
    have := fl.2.1
    rw [z, BC] at this
    cases this
  refine ⟨m, ⟨_, es, ep, e2, hd, hk⟩, fun h2 sb cenv _ hcf => ?_⟩
  -- the ground without the block's variables
  have k2 : ∀ b, b ≠ s3.heap.objs.size → h2.get? b = h1.get? b := fun b hb => sb.2 b hb
  obtain ⟨hk1, hk2, hk3, oe, vs, T, oT, ts, he, hz, hdt, h1v, hnT, hTe, hT, hdT, h3⟩ := held
  have TC : T ≠ s3.heap.objs.size := fun z => by rw [z, BC] at hnT; cases hnT
  have held2 : HandSPX.HeldZ (PySem.W.hideAll B [s3.heap.objs.size]) (X.env :: X.outer) a (Zc cls d) X.env.locals h2 := by
    have sub : ∀ b o, (PySem.W.hideAll B [s3.heap.objs.size]).get? b = some o → B.get? b = some o ∧ b ≠ s3.heap.objs.size := fun b o e => ⟨PySem.W.of_hideAll _ e, fun z => by
      rw [PySem.W.hideAll_none _ (by rw [z]; exact List.mem_cons_self)] at e
      cases e⟩
    have none_of : ∀ b, B.get? b = none → (PySem.W.hideAll B [s3.heap.objs.size]).get? b = none := fun b e => by
      cases q : (PySem.W.hideAll B [s3.heap.objs.size]).get? b with
      | none => rfl
      | some o =>
        have := (sub b o q).1
        rw [e] at this
        cases this
    refine ⟨fun b o e => ?_, none_of _ hk2, funFrames_none (base := B) ?_ fun L hL => none_of L (hk3.mem hL).1, oe, vs, T, oT, ts, (k2 a aC).trans he, hz, hdt, h1v, none_of _ hnT, hTe, (k2 T TC).trans hT, hdT, h3⟩
    · obtain ⟨e', n⟩ := sub b o e
      exact (k2 b n).trans (hk1 b o e')
    · refine funFrames_at hk3 fun b hb => k2 b fun z => Cst (by rw [hst, ← z]; exact hb)
  unfold PySem.passOn
  refine wpAny_bind (wpAny_field ((k2 a aC).trans he) hdt h1v ?_)
  rw [if_neg (show ¬ ((Value.ref T == Value.none) = true) from by simp)]
  rw [hcf, hf]
  refine wpAny_bind (HandSPX.setFlight_onZ held2 fun h4 held4 up4 => ?_)
  refine wpAny_throw (tk _ _ ?_)
  refine ⟨a, PySem.W.hideAll B [s3.heap.objs.size], { sI with heap := PySem.W.hideAll sI.heap [s3.heap.objs.size] }, pins, σ, H', cls, d, rfl, ?_, fun b o e hb => ?_, fun b o e n => ?_, .inr (.inr (by rw [hst]; exact held4)), na, os, ag, hW⟩
  · -- back in the def's context
    have subI : ∀ b o, b ≠ s3.heap.objs.size → sI.heap.get? b = some o → (PySem.W.hideAll sI.heap [s3.heap.objs.size]).get? b = some o := fun b o n e => PySem.W.hideAll_get _ e (by simpa using n)
    have lt3 : ∀ b o, s3.heap.get? b = some o → b ≠ s3.heap.objs.size := fun b o e => Nat.ne_of_lt (Heap.lt_size e)
    have bs : Un (frs X.stack) fp H3 H' s3.heap sI.heap := II.base
    refine I3.call' (ch := fp) II.os ⟨fun b o e n hb hc => subI b o (lt3 b o e) (bs.keep b o e n hb hc), fun b o e n hb hc => ?_, bs.free, fun b o e hc => ?_, bs.tups, bs.frzs, bs.tbls⟩ (fun b o e => (II.hok b o e).stay (fun c v hc q => subI c v (fun z => ?_) q) (fun _ q => q) fun _ _ q => q) II.bare fun b hb => ⟨(hfp b hb).2.2.2.1, (hfp b hb).2.1, (hfp b hb).2.2.2.2.1, (hfp b hb).2.2.2.2.2⟩
    · obtain ⟨sl, q⟩ := bs.slot b o e n hb hc
      exact ⟨sl, subI b _ (lt3 b o e) q⟩
    · obtain ⟨o', q⟩ := bs.there b o e hc
      exact ⟨o', subI b _ (lt3 b o e) q⟩
    · rcases hc with hc | hc
      · rw [← hc, z, nC] at e; cases e
      · rw [z, nC] at hc; cases hc
  · have e' := PySem.W.of_hideAll _ e
    have n : b ≠ s3.heap.objs.size := fun z => by
      rw [PySem.W.hideAll_none _ (by rw [z]; exact List.mem_cons_self)] at e
      cases e
    exact PySem.W.hideAll_get _ (nb b o e' hb) (by simpa using n)
  · have e' := PySem.W.of_hideAll _ e
    have hb : b ≠ s3.heap.objs.size := fun z => by
      rw [PySem.W.hideAll_none _ (by rw [z]; exact List.mem_cons_self)] at e
      cases e
    obtain ⟨t1, q1⟩ := up b o e' n
    obtain ⟨t2, q2⟩ := up1 b _ q1 n
    obtain ⟨t3, q3⟩ := up4 b _ ((k2 b hb).trans q2) n
    exact ⟨t3, q3⟩
end
section
variable {X : Cx}
/-- what a comprehension does whose element may raise: te by the slots ahead of the block -/
def tLcX (wi : TI) (g : TG) (tt : TT) (te : L2.St → TE) (vs : List Nat) : TE := fun σ H Q => wi σ H fun J H1 => ∀ D, H1 D = none → ∃ W : Nat → Nat → Hp → Prop, (∃ m, W 0 m (upd H1 D (.lst []))) ∧ ∀ i m H, W i m H →
  (J.stop i H ∧ Q (.ref D) H) ∨ (J.go i H ∧ ∃ Nx : Hp → Prop, (∀ H', Nx H' → ∃ m', m' < m ∧ W (i + 1) m' H') ∧ ∀ x H', J.yld i H x H' → g x (wipe σ vs) H' fun σ2 H2 => wipe σ2 vs = wipe σ vs ∧ tt σ2 H2 fun b H3 =>
    if b = true then te σ σ2 H3 fun y H4 => ∃ acc, H4 D = some (.lst acc) ∧ acc.length < sizeLine ∧ Nx (upd H4 D (.lst (acc ++ [y]))) else Nx H3)
/-- the element, within the block, under the wish W at the slots σ0 ahead of it -/
abbrev PEx (X : Cx) (W : WX) (scope : Scope) (elt : Expr) (te : L2.St → TE) : Prop := ∀ (σ0 : L2.St) (s : Shared) (H : Hp) (C : Addr) (cl : List (Str × Addr)) (fp : List Addr) (xe : Value → Shared → Prop),
  (∀ σ, PassesAt (L2.CX X.prog X.w) (blkX X s H scope (compEnvC scope cl C X.env) fp xe) σ (fun cls d H => W cls d σ0 H)) → PE (blkX X s H scope (compEnvC scope cl C X.env) fp xe) elt (te σ0)
theorem lc_coreX {W : WX} {pins : List (Addr × Obj)} {s : Shared} {σ : L2.St} {H : Hp} {Q : VK} {elt tg iter : Expr} {ifs : List Expr} {scope : Scope} {own : List (Str × Nat)} {pos pos' : Pos} {wi : TI} {g : TG} {tt : TT} {te : L2.St → TE} {use : Option (Value → Sem Unit)} {Qf : Value → Shared → Prop}
    (tk : Takes X W) (hst : X.stack = X.env :: X.outer) (hf : X.env.frame = some X.env.locals)
    (hc : X.calm = true) (hN : X.N.Nodup) (I : Inv X pins σ H s) (hi : PI X tg iter wi) (ok : BlkOk X.N X.env.scope scope own)
    (hg : ∀ (s : Shared) (H : Hp) (C : Addr) (cl : List (Str × Addr)) (fp : List Addr), PG (X.blk s H scope (compEnvC scope cl C X.env) fp) tg g) (ht : ∀ (s : Shared) (H : Hp) (C : Addr) (cl : List (Str × Addr)) (fp : List Addr), PTs (X.blk s H scope (compEnvC scope cl C X.env) fp) ifs tt)
    (he : PEx X W scope elt te) (hs : ∀ x, foldedSetIterable iter X.env x = pure x)
    (h : tLcX wi g tt te (own.map (·.2)) σ H Q)
    (hRR : ∀ D C s' m H', Inv X pins σ H' s' → Q (.ref D) H' → s'.heap.Ns C m → FpOk X pins H' C → postF (model X.prog X.w) X.A X.xe use Qf (.ref D) C X.env.frame (.ok .next) s') :
    wpAny (model X.prog X.w) X.A (comprehension (.ListComp elt [⟨tg, iter, ifs, 0⟩] scope pos) scope X.env pos' (newList []) false (eval iter X.env) use) Qf X.xe s := by
  have hfree : ∀ y ∈ scope.names, y.2 = .free → ∃ c, X.env.cells.lookup y.1 = some c := fun y hy e => by
    rcases ok.free y hy e with k | k
    · exact I.ok.has _ (.inl k)
    · exact I.ok.has _ (.inr k)
  refine comp_freeF (use := use) rfl hs (closure_ok hfree) ok.kind (fun y hy e => by rw [ok.uniq y hy, e])
    (thn (hi.run pins s σ H _ I h) fun xv s1 hx => thn hx fun itv s2 h2 => ?_)
  obtain ⟨it, fp, tn, J, H2, e, I2, T, st2, f2, q⟩ := h2
  subst e
  refine wpAny_newObj_type (newEnv_comp ?_) (by show 0 ≤ sizeLine; decide)
  generalize hD : s2.heap.objs.size = D
  have hDn : H2 D = none := I2.hok.fresh (Nat.le_of_eq hD)
  obtain ⟨WW, ⟨m0, w0⟩, turn⟩ := q D hDn
  -- the new list
  generalize hs3 : ({ s2 with heap := s2.heap.push { cls := .type "list", data := .seq ([] : List Value).toArray } } : Shared) = s3
  have I3 : Inv X pins σ (upd H2 D (.lst [])) s3 := by
    rw [← hs3]
    refine I2.laid (t' := s2.toks) (fun b o e => Heap.get?_push_of_some _ e) (Nat.le_of_eq hD) ⟨Nat.zero_le _, [], 0, .nil, ?_⟩
    rw [← hD]
    exact Heap.get?_push_size _ rfl
  have h3 : s3.heap = s2.heap.push { cls := .type "list", data := .seq ([] : List Value).toArray } := by rw [← hs3]
  have sz : ∀ b ∈ fp, b < s2.heap.objs.size := fun b hb => by
    obtain ⟨o, e, _⟩ := T.obj _ _ st2 b hb
    exact Heap.lt_size e
  have f3 : ∀ b ∈ fp, FpOk X pins (upd H2 D (.lst [])) b ∧ b < s3.heap.objs.size := fun b hb => by
    have hlt := sz b hb
    refine ⟨⟨?_, (f2 b hb).2⟩, by rw [h3, Heap.size_push]; exact Nat.lt_succ_of_lt hlt⟩
    rw [upd_ne (by rw [← hD]; exact Nat.ne_of_lt hlt)]
    exact (f2 b hb).1
  have st3 : tn 0 s3.heap := T.keep _ _ _ st2 fun b _ o e => by rw [h3]; exact Heap.get?_push_of_some _ e
  have I4 := block_start I3 ok hN f3
  have pg := hg s3 (upd H2 D (.lst [])) s3.heap.objs.size (cellsFrom (s3.heap.objs.size + 1) scope.names (cloFrom X.env.cells scope.names [])) fp
  have pt := ht s3 (upd H2 D (.lst [])) s3.heap.objs.size (cellsFrom (s3.heap.objs.size + 1) scope.names (cloFrom X.env.cells scope.names [])) fp
  have pe := he σ s3 (upd H2 D (.lst [])) s3.heap.objs.size (cellsFrom (s3.heap.objs.size + 1) scope.names (cloFrom X.env.cells scope.names [])) fp
  show codeAny _ _ (.compStart (.ListComp elt [⟨tg, iter, ifs, 0⟩] scope pos) 0 (.ref it) (.ref D) (compEnvC scope (cellsFrom (s3.heap.objs.size + 1) scope.names (cloFrom X.env.cells scope.names [])) s3.heap.objs.size X.env)) (postF (model X.prog X.w) X.A X.xe use Qf (.ref D) s3.heap.objs.size X.env.frame) { s3 with heap := pushCells (s3.heap.push { cls := .type "dict", data := .dict #[] }) scope.names }
  have nfp : ∀ b ∈ fp, (upd H2 D (.lst [])) b = none := fun b hb => (f3 b hb).1.1
  generalize hce : compEnvC scope (cellsFrom (s3.heap.objs.size + 1) scope.names (cloFrom X.env.cells scope.names [])) s3.heap.objs.size X.env = ce at I4 pg pt pe ⊢
  have cL : ce.locals = s3.heap.objs.size := by subst hce; rfl
  have cF : ce.frame = X.env.frame := by subst hce; rfl
  generalize hH3 : upd H2 D (.lst []) = H3 at I3 I4 pg pt pe w0 nfp f3
  generalize hs4 : ({ s3 with heap := pushCells (s3.heap.push { cls := .type "dict", data := .dict #[] }) scope.names } : Shared) = s4 at I4 ⊢
  have st4 : tn 0 s4.heap := T.keep _ _ _ st3 fun b _ o e => by rw [← hs4]; exact pushCells_keeps _ _ _ _ (Heap.get?_push_of_some _ e)
  have stat : ∀ {σ' : L2.St} {H' : Hp} {s' : Shared}, Inv (X.blk s3 H3 scope ce fp) [] σ' H' s' → (∀ b ∈ fp, H' b = none) → ∀ b ∈ fp, FpOk (X.blk s3 H3 scope ce fp) [] H' b := fun {σ' H' s'} I' hn b hb =>
    ⟨hn b hb, (I'.ok.exf b hb).1, I'.ok.exfs b hb, .inl hb, fun x c e => (I'.ok.exf b hb).2 x c e, fun p hp => absurd (show p ∈ ([] : List (Addr × Obj)) ++ [] from hp) (by simp)⟩
  generalize hxe : (notedBy (model X.prog X.w) X.A ce fun e s' => postF (model X.prog X.w) X.A X.xe use Qf (.ref D) s3.heap.objs.size X.env.frame (.error e) s') = xe
  have pe := pe xe fun σ' pinsB H5 s5 u s6 I5 c => by
    show xe u s6
    rw [← hxe]
    exact block_out tk hst hf I3 cL cF (fun b hb => (f3 b hb).1) I5 c
  have loop : codeAny (model X.prog X.w) X.A (.compLoop (.ListComp elt [⟨tg, iter, ifs, 0⟩] scope pos) 0 (.ref it) (.ref D) ce) (postF (model X.prog X.w) X.A X.xe use Qf (.ref D) s3.heap.objs.size X.env.frame) s4 := by
    refine compLoop_any (fun n s' => ∃ i H', Inv (X.blk s3 H3 scope ce fp) [] (wipe σ (own.map (·.2))) H' s' ∧ tn i s'.heap ∧ (∀ b ∈ fp, H' b = none) ∧ WW i n H') ?_ m0 ⟨0, H3, I4, st4, nfp, w0⟩
    rintro n s5 ⟨i, H5, I5, st5, n5, w5⟩
    rcases turn i n H5 w5 with ⟨stop, qq⟩ | ⟨go, Nx, hNx, step⟩
    · have td := T.done (X.blk s3 H3 scope ce fp) rfl rfl rfl hc i [] s5 _ H5 (fun _ _ => False) I5 (stat I5 n5) st5 stop
      refine thnF td fun r s6 ⟨hr, I6⟩ => ?_
      subst hr
      -- back in the def's context
      have I7 : Inv X pins σ H5 s6 := I3.call' (ch := fp) I6.os I6.base I6.hok I6.bare fun b hb => ⟨(f3 b hb).1.2.2.2.1, (f3 b hb).1.2.1, (f3 b hb).1.2.2.2.2.1, (f3 b hb).1.2.2.2.2.2⟩
      have nC : H5 s3.heap.objs.size = none := by
        have z : H5 ce.locals = none := I6.free
        rw [cL] at z
        exact z
      obtain ⟨m, hn, _⟩ := I6.loc
      have hn : s6.heap.Ns ce.locals m := hn
      rw [cL] at hn
      exact hRR D s3.heap.objs.size s6 m H5 I7 qq hn (I3.fpOk (Nat.le_refl _) nC)
    · have ti := T.item (X.blk s3 H3 scope ce fp) rfl rfl rfl hc i [] s5 _ H5 (fun _ _ => False) I5 (stat I5 n5) st5 go
      refine thnF ti fun r s6 ⟨u, hr, h6⟩ => ?_
      subst hr
      refine thnF h6 fun _ s7 ⟨x, H7, I7, r7, y7, st7, n7⟩ => ?_
      have I7' := I7.pinned (stat I7 n7) (T.obj _ _ st7)
      refine thnF (pg.run _ s7 _ H7 x u _ I7' r7 (step x H7 y7)) fun _ s8 ⟨σ8, H8, I8, hw8, q8⟩ => ?_
      refine thnF (pt.run _ s8 σ8 H8 _ I8 q8) fun b s9 ⟨H9, I9, q9⟩ => ?_
      -- the turn's end
      have fin : ∀ {s' : Shared} {H' : Hp}, Inv (X.blk s3 H3 scope ce fp) ([] ++ pinsAt fp s7.heap) σ8 H' s' → Nx H' → ∃ m, m < n ∧ ∃ i H', Inv (X.blk s3 H3 scope ce fp) [] (wipe σ (own.map (·.2))) H' s' ∧ tn i s'.heap ∧ (∀ b ∈ fp, H' b = none) ∧ WW i m H' := fun {s' H'} I' nx => by
        obtain ⟨m', hm, w'⟩ := hNx H' nx
        have pin' : ∀ b ∈ fp, ∀ o, s7.heap.get? b = some o → s'.heap.get? b = some o ∧ H' b = none := fun b hb o e =>
          let z := I'.pin (b, o) (List.mem_append_right _ (List.mem_append_right _ (mem_pinsAt hb e)))
          ⟨z.1, z.2.1⟩
        have hl : (wipe σ (own.map (·.2))).length = σ8.length := by rw [← hw8, wipe_length]
        refine ⟨m', hm, i + 1, H', (I'.unpinned (pins := [])).weak hl (fun j v e => ?_), T.keep _ _ _ st7 fun b hb o e => (pin' b hb o e).1, fun b hb => ?_, w'⟩
        · rw [← hw8] at e
          exact (wipe_some e).1
        · obtain ⟨o, e, _⟩ := T.obj _ _ st7 b hb
          exact (pin' b hb o e).2
      cases b with
      | false =>
        simp only [Bool.false_eq_true, if_false] at q9 ⊢
        exact fin I9 q9
      | true =>
        simp only [if_true] at q9 ⊢
        refine wpAny_mono (pe.run _ s9 σ8 H9 _ (inv_xe I9) q9) (fun z s10 ⟨yv, H10, I10, r10, acc, hD10, hz10, nx⟩ => ?_) fun u s' z => by
          rw [hxe]
          exact z
        exact app_ok (X := X.blk s3 H3 scope ce fp) (inv_xe (xe := fun _ _ => False) I10) hD10 hz10 r10 fun s11 I11 => fin I11 nx
  exact codeAny_compStart_list loop (T.self X.A 0 _ _ _ st4 loop)
/-- name = [..] on one line, the name a local -/
theorem ps_setLcX {W : WX} {i : Nat} {y : Str} {py : Pos} {elt tg iter : Expr} {ifs : List Expr} {scope : Scope} {own : List (Str × Nat)} {pos spos : Pos} {wi : TI} {g : TG} {tt : TT} {te : L2.St → TE} (tk : Takes X W) (hst : X.stack = X.env :: X.outer) (hf : X.env.frame = some X.env.locals) (hc : X.calm = true) (hN : X.N.Nodup) (hy : X.N[i]? = some y) (hyl : X.env.scope.names.lookup y = some .local)
    (hsw : swapsWith (.ListComp elt [⟨tg, iter, ifs, 0⟩] scope pos) (some (.Name y py)) spos.line X.env = pure true) (hi : PI X tg iter wi) (ok : BlkOk X.N X.env.scope scope own)
    (hg : ∀ (s : Shared) (H : Hp) (C : Addr) (cl : List (Str × Addr)) (fp : List Addr), PG (X.blk s H scope (compEnvC scope cl C X.env) fp) tg g) (ht : ∀ (s : Shared) (H : Hp) (C : Addr) (cl : List (Str × Addr)) (fp : List Addr), PTs (X.blk s H scope (compEnvC scope cl C X.env) fp) ifs tt)
    (he : PEx X W scope elt te) (hs : ∀ x, foldedSetIterable iter X.env x = pure x := by intro _; rfl) :
    PS X (.Assign [.Name y py] (.ListComp elt [⟨tg, iter, ifs, 0⟩] scope pos) spos) (tAsg (tLcX wi g tt te (own.map (·.2))) (gName i)) := by
  refine ⟨fun pins s σ H D I h => ?_⟩
  rw [exec_Assign_Name_used _ _ _ _ hsw]
  refine wpAny_bind (wpAny_standAt (wpAny_bind ?_))
  show wpAny _ X.A (do let _ ← comprehension (.ListComp elt [⟨tg, iter, ifs, 0⟩] scope pos) scope X.env (firstIterPos [⟨tg, iter, ifs, 0⟩] pos) (newList []) false (eval iter X.env) (some (assign (.Name y py) X.env))) _ _ s
  have h : tLcX wi g tt te (own.map (·.2)) σ H (fun x H1 => gName i x σ H1 D.nx) := h
  refine wpAny_bind (thn (lc_coreX (Qf := fun _ s' => SP X pins D .next s') tk hst hf hc hN I hi ok hg ht he hs h fun L C s' m H' I' q hn f => ?_) fun _ s' hq => wpAny_pure (wpAny_pure hq))
  show wpAny _ _ (assign (.Name y py) X.env (.ref L)) _ _ _
  refine wpAny_assign_Name (store_ok2 (v := V.ref L) I' hN hy (.inl hyl) rfl (fun s2 I2 ⟨a, sb, ha⟩ => ?_) (.inr hyl))
  obtain ⟨f0, f1, f2, f3, f4, f5⟩ := f
  have haC : C ≠ a := by
    rcases ha with z | z
    · rw [z]; exact f1
    · exact fun e => f4 y a z e.symm
  refine ⟨m, hn.sameBut sb haC, fun h3 sb3 => ?_⟩
  exact ⟨_, H', I2.turned (t' := s2.toks) (fun b o hb e => (sb3.2 b hb).trans e) f0 f1 f3 f4 f5, q⟩
end
end Dn
set_option maxHeartbeats 2000000
namespace Dn
open PySem PySem.Spec PyProof.Rows L2
def xapp (as : List D) : List D ⊕ Xc → List D ⊕ Xc
  | .inl l => .inl (as ++ l)
  | .inr x => .inr x
theorem xapp_nil {r : List D ⊕ Xc} : xapp [] r = r := by cases r <;> rfl
theorem xapp_app {as bs : List D} {r : List D ⊕ Xc} : xapp as (xapp bs r) = xapp (as ++ bs) r := by
  cases r with
  | inl l => show Sum.inl (as ++ (bs ++ l)) = Sum.inl (as ++ bs ++ l); rw [List.append_assoc]
  | inr x => rfl
def lcX (vs : List Nat) (tg : D → Env → Option Env) (tt : Md Bool) (te : Mx D) : List D → Env → Option ((List D ⊕ Xc) × Env)
  | [], ρ => some (.inl [], ρ)
  | d :: ds, ρ => (tg d ρ).bind fun ρ1 => (tt ρ1).bind fun p => if p.1 = true then (te p.2).bind fun q => match q.1 with
      | .inl y => (lcX vs tg tt te ds (wipeE q.2 vs)).bind fun r => some (xapp [y] r.1, r.2)
      | .inr x => some (.inr x, wipeE q.2 vs)
    else lcX vs tg tt te ds (wipeE p.2 vs)
def xlist : List D ⊕ Xc → D ⊕ Xc
  | .inl l => .inl (.list l)
  | .inr x => .inr x
/-- [e for x in it if ..], e may raise -/
def xLc (vs : List Nat) (gi : Md (List D)) (tg : D → Env → Option Env) (tt : Md Bool) (te : Mx D) : Mx D := fun ρ => (gi ρ).bind fun p =>
  if p.1.length ≤ 16777216 ∧ vs.all (notOwn p.2) = true then (lcX vs tg tt te p.1 (wipeE p.2 vs)).bind fun r => some (xlist r.1, backE p.2 vs r.2) else none
/-- a new list of one's own, or an exception -/
def tXF (K : Kx) (mg : Str → Option Value) (W : WX) (g : Mx D) : TE := fun σ H Q => ∃ (F : Hp) (ρ : Env) (r : D ⊕ Xc) (ρ' : Env), St K F H σ ρ ∧ g ρ = some (r, ρ') ∧
  ∀ F' H', Stp F σ ρ H F' σ ρ' H' → St K F' H' σ ρ' → match r with
    | .inl d => ∀ a, OwnN K F' H' a d → ¬ Owns σ ρ' a → H a = none → Q (.ref a) H'
    | .inr x => XcOk mg W x σ H'
abbrev WSl (W : WX) (σ0 : L2.St) : WX := fun cls d _ H => W cls d σ0 H
section
variable {X : Cx} {W : WX}
theorem lcx_q {vs is : List Nat} (hv : ∀ j ∈ is, j ∈ vs) {gi : Md (List D)} {gt : D → Env → Option Env} {gc : Md Bool} {ge : Mx D} {σ : L2.St} {H : Hp} {Q : VK} (q : tXF (cxK X) X.mg W (xLc vs gi gt gc ge) σ H Q) : tLcX (tDI (cxK X) gi) (tDG (cxK X) is gt) (tDT (cxK X) gc) (fun σ0 => tX (cxK X) X.mg (WSl W σ0) ge) vs σ H Q := by
    obtain ⟨F, ρ, d, ρ', s, eg, k⟩ := q
    obtain ⟨⟨ds, ρ1⟩, e1, eg1⟩ := bind_some eg
    simp only at eg1
    split at eg1
    · rename_i hl
      obtain ⟨⟨rs, ρe⟩, e2, eg2⟩ := bind_some eg1
      cases eg2
      refine ⟨F, ρ, ds, ρ1, s, e1, fun J F1 H1 p1 s1 ok D hD => ?_⟩
      have hw := st_wipe s1 vs
      have hnv : ∀ i dd, ρ1[i]? = some (some (.own true dd)) → i ∉ vs := fun i dd e hi => not_own hl.2 hi e
      have p1w : Stp F1 σ ρ1 H1 F1 (wipe σ vs) (wipeE ρ1 vs) H1 := stp_wipe Stp.refl hnv
      have nD0 : ¬ Owns (wipe σ vs) (wipeE ρ1 vs) D := not_owns hw hD
      refine ⟨fun i m Hi => ∃ Fi ρi acc as rr, m = ds.length - i ∧ i ≤ ds.length ∧ Stp F1 σ ρ1 H1 Fi (wipe σ vs) ρi Hi ∧ St (cxK X) Fi Hi (wipe σ vs) ρi ∧ lcX vs gt gc ge (ds.drop i) ρi = some (rr, ρe) ∧ xapp as rr = rs ∧ (Fi D = none ∧ ¬ Owns (wipe σ vs) ρi D) ∧ Hi D = some (.lst acc) ∧ RpAll (cxK X) Fi acc as ∧ as.length ≤ i,
        ⟨ds.length, F1, wipeE ρ1 vs, [], [], rs, by simp, Nat.zero_le _, p1w.trans ((Grow.own s1.sub hD).stp _ _), hw.grow (Grow.own s1.sub hD), by simpa using e2, xapp_nil, ⟨none_sub s1.sub hD, nD0⟩, upd_same, .nil, by simp⟩, ?_⟩
      rintro i m Hi ⟨Fi, ρi, acc, as, rr, rfl, hi, pi, si, ei, er, ⟨fD, nD⟩, hDi, ra, la⟩
      have sff : Same F1 Fi := pi.ff
      by_cases hlt : i < ds.length
      · have hd : ds[i]? = some ds[i] := List.getElem?_eq_getElem hlt
        obtain ⟨ok1, _⟩ := ok Fi Hi sff si.sub i
        obtain ⟨go, yl⟩ := ok1 _ hd
        rw [drop_cons hd] at ei
        obtain ⟨ρ2, e3, ei1⟩ := bind_some ei
        obtain ⟨⟨b, ρ3⟩, e4, ei2⟩ := bind_some ei1
        refine .inr ⟨go, fun H' => ∃ F' ρ'' acc' as' rr', Stp F1 σ ρ1 H1 F' (wipe σ vs) ρ'' H' ∧ St (cxK X) F' H' (wipe σ vs) ρ'' ∧ lcX vs gt gc ge (ds.drop (i + 1)) ρ'' = some (rr', ρe) ∧ xapp as' rr' = rs ∧ (F' D = none ∧ ¬ Owns (wipe σ vs) ρ'' D) ∧ H' D = some (.lst acc') ∧ RpAll (cxK X) F' acc' as' ∧ as'.length ≤ i + 1,
          fun H' ⟨F', ρ'', acc', as', rr', z1, z2, z3, z4, z5, z6, z7, z8⟩ => ⟨ds.length - (i + 1), by omega, F', ρ'', acc', as', rr', rfl, hlt, z1, z2, z3, z4, z5, z6, z7, z8⟩, fun v H' hy => ?_⟩
        obtain ⟨F', gr, rv⟩ := yl v H' hy
        have q0 := gr.stp (wipe σ vs) ρi
        refine ⟨F', ρi, _, ρ2, si.grow gr, rv, e3, fun σ2 F2 H2 p2 s2 w2 => ?_⟩
        have ew : wipe σ2 vs = wipe σ vs := wipe_eq w2.2 hv (w2.1.trans (wipe_length σ vs))
        refine ⟨ew, F2, ρ2, b, ρ3, s2, e4, fun F3 H3 p3 s3 => ?_⟩
        have q3 := q0.trans (p2.trans p3)
        have fin : ∀ (F4 : Hp) (ρ4 : Env) (H4 : Hp), Stp Fi (wipe σ vs) ρi Hi F4 σ2 ρ4 H4 → St (cxK X) F4 H4 σ2 ρ4 → H4 D = some (.lst acc) ∧ F4 D = none ∧ ¬ Owns (wipe σ vs) (wipeE ρ4 vs) D ∧ Stp F1 σ ρ1 H1 F4 (wipe σ vs) (wipeE ρ4 vs) H4 ∧ St (cxK X) F4 H4 (wipe σ vs) (wipeE ρ4 vs) := fun F4 ρ4 H4 q s4 => by
          obtain ⟨h1, h2⟩ := q.keep D _ hDi nD
          have h3 := stp_wipe (pi.trans q) hnv
          have h4 := st_wipe s4 vs
          rw [ew] at h3 h4
          refine ⟨h1, h2.trans fD, fun z => ?_, h3, h4⟩
          obtain ⟨j, f, dd, z1, z2⟩ := z
          obtain ⟨z3, z4⟩ := wipeE_cell z1
          rw [← ew, wipe_out' z4] at z2
          rcases q.fresh D ⟨j, f, dd, z3, z2⟩ with y | y
          · exact nD y
          · rw [hDi] at y
            cases y
        cases b with
        | true =>
          rw [if_pos rfl] at ei2
          obtain ⟨⟨y, ρ4⟩, e5, ei3⟩ := bind_some ei2
          cases y with
          | inl y =>
            obtain ⟨⟨r, ρ5⟩, e6, ei4⟩ := bind_some ei3
            cases ei4
            refine ⟨F3, ρ3, _, ρ4, s3, e5, fun F4 H4 p4 s4 u r4 => ?_⟩
            have q4 := q3.trans p4
            obtain ⟨h1, h2, h3, h4, h5⟩ := fin F4 ρ4 H4 q4 s4
            refine ⟨acc, h1, by rw [line_eq, da_len ra]; omega, F4, wipeE ρ4 vs, acc ++ [u], as ++ [y], r, stp_side h4 hD, st_side h5 h2 h3, e6, by rw [← xapp_app]; exact er, ⟨h2, h3⟩, upd_same, da_app (dpAll_mono q4.ff _ _ ra) (.cons r4 .nil), by rw [List.length_append]; simpa using la⟩
          | inr x =>
            cases ei3
            have er : Sum.inr x = rs := er
            subst er
            refine ⟨F3, ρ3, _, ρ4, s3, e5, fun F4 H4 p4 s4 => ?_⟩
            obtain ⟨h1, h2, h3, h4, h5⟩ := fin F4 ρ4 H4 (q3.trans p4) s4
            obtain ⟨pb, sb⟩ := stp_back h4 (by rw [h5.len, wipe_length, s1.len]) hl.2
            exact k F4 H4 (p1.trans pb) (st_back s1 h5 h4.ff hl.2)
        | false =>
          rw [if_neg Bool.false_ne_true] at ei2
          obtain ⟨h1, h2, h3, h4, h5⟩ := fin F3 ρ3 H3 q3 s3
          exact ⟨F3, wipeE ρ3 vs, acc, as, rr, h4, h5, ei2, er, ⟨h2, h3⟩, h1, dpAll_mono q3.ff _ _ ra, by omega⟩
      · rw [List.drop_of_length_le (by omega)] at ei
        cases ei
        obtain ⟨_, st⟩ := ok Fi Hi sff si.sub i
        refine .inl ⟨st (by omega), ?_⟩
        have er : Sum.inl (as ++ []) = rs := er
        rw [List.append_nil] at er
        subst er
        obtain ⟨pb, sb⟩ := stp_back pi (by rw [si.len, wipe_length, s1.len]) hl.2
        exact k Fi Hi (p1.trans pb) (st_back s1 si sff hl.2) D ⟨⟨fD, .inl ⟨acc, as, rfl, hDi, ra⟩⟩, rfl⟩ (fun z => nD (sb D z)) (p1.none hD)
    · cases eg1
def xOwn (i : Nat) (g : Mx D) : Sx := xBind g fun d ρ => (setC i (.own false d) ρ).bind fun r => some (.inl .nx, r)
theorem sx_lcO {st : Stmt} {i : Nat} {vs is : List Nat} {gi : Md (List D)} {gt : D → Env → Option Env} {gc : Md Bool} {ge : Mx D} (h : PS X st (fun E σ H => tLcX (tDI (cxK X) gi) (tDG (cxK X) is gt) (tDT (cxK X) gc) (fun σ0 => tX (cxK X) X.mg (WSl W σ0) ge) vs σ H fun v H1 => E.nx (σ.set i (some v)) H1)) (hv : ∀ j ∈ is, j ∈ vs := by decide) : SX X W st (xOwn i (xLc vs gi gt gc ge)) :=
  ps_imp h fun E σ H q => by
    obtain ⟨F, ρ, f, ρ', s, eg, k⟩ := q
    rcases xb_some eg with ⟨d, ρ1, e1, eg1⟩ | ⟨x, e1, rfl⟩
    · obtain ⟨r, e2, eg2⟩ := bind_some eg1
      cases eg2
      refine lcx_q hv ⟨F, ρ, _, ρ1, s, e1, fun F1 H1 p1 s1 a o no hn => k _ F1 H1 (stp_set p1 e2 fun _ _ b _ z => ?_) (st_set s1 e2 ⟨a, rfl, o.1⟩ fun f _ b z1 z => ?_)⟩
      · cases z
        exact hn
      · cases z
        cases z1
        exact ⟨rfl, no⟩
    · exact lcx_q hv ⟨F, ρ, _, _, s, e1, fun F1 H1 p1 s1 => k σ F1 H1 p1 s1⟩
/-- a call within a comprehension's element -/
theorem ex_callP {e : Expr} {es : List Expr} {x : Str} {p pos : Pos} {k n : Nat} {f : Addr} {fd : FuncData} {ps : List Str} {g : List D → Option (D ⊕ Xc)} {gs : Mx (List D)} (hx : ∀ σ, PassesAt (L2.CX X.prog X.w) X σ (WE W σ)) (G : FnOk X.prog X.w X.K X.mg X.base (L2.CX X.prog X.w) k f fd ps (spX (cxK X) X.mg n g)) (hr : Room k X.A) (hg : Gl X x) (hm : X.mg x = some (.ref f)) (hk : PySem.W.keepIn X.K (.ref f) = true) (hb : Binds X.K fd ps [])
    (ha : AX X W (e :: es) gs) (hlen : ∀ ρ ds ρ', gs ρ = some (.inl ds, ρ') → ds.length = n)
    (hdb : (x == ("__debug__" : Str)) = false := by decide) (he : starEach (e :: es) X.env = (false, eval e X.env) :: starEach es X.env := by rfl) (hpl : (backTo pos (starEach es X.env)).any (·.1) = false := by rfl) : EX X W (.Call (.Name x p) (e :: es) [] pos) (xCall g gs) :=
  pe_imp (pe_callS (E := WE W) G hr hg hm hk hb hx ha hdb he hpl) fun σ H Q q => by
    obtain ⟨F, ρ, r, ρ', s, eg, k⟩ := q
    rcases xb_some eg with ⟨ds, ρ1, e1, eg1⟩ | ⟨x, e1, rfl⟩
    · obtain ⟨e2, rfl⟩ := xl_some eg1
      refine ⟨F, ρ, _, _, s, e1, fun F1 H1 p1 s1 vs r1 => ⟨by rw [da_len r1]; exact hlen _ _ _ e1, F1, ds, r, s1.sub, r1, e2, fun F3 H3 gr => ?_⟩⟩
      have z := k F3 H3 (p1.trans (gr.stp σ _)) (s1.grow gr)
      cases r with
      | inl d => exact z
      | inr x => exact z
    · exact ⟨F, ρ, _, _, s, e1, fun F1 H1 p1 s1 => k F1 H1 p1 s1⟩
def xFail : Sx := fun _ => none
theorem sxs_fail {sts : List Stmt} : SXs X W sts xFail := ⟨fun pins s σ H E I q => by
  obtain ⟨F, ρ, f, ρ', st, eg, k⟩ := q
  cases eg⟩
end
end Dn
set_option maxHeartbeats 2000000
namespace Dn
open PySem PySem.Spec PyProof.Rows L2
section
variable {X : Cx} {e : Expr} {x : Str} {p pos : Pos}
def gCallIOF (f : D → List D → Option (D × D)) (g : Md D) : Md D := fun ρ => (g ρ).bind fun p => (f p.1 []).bind fun r => some (r.1, p.2)
end
end Dn
set_option maxHeartbeats 2000000
namespace Dn
open PySem PySem.Spec PyProof.Rows L2
end Dn
set_option maxHeartbeats 2000000
namespace Dn
open PySem PySem.Spec PyProof.Rows L2
section
variable {prog : Program} {w : World} {A : Around} {E : Value → Shared → Prop} {s : Shared}
def lt1 (h : Heap) (l1 : Addr) : Heap := h.push { cls := .type "list_iterator", data := .fields #[.ref l1, .int 0 0] }
def lt2 (h : Heap) (l1 l2 : Addr) : Heap := (lt1 h l1).push { cls := .type "tuple_iterator", data := .fields #[.ref l2, .int 0 0] }
def lt3 (h : Heap) (l1 l2 : Addr) : Heap := (lt2 h l1 l2).push { cls := .type "tuple", data := .seq #[.ref h.objs.size, .ref (lt1 h l1).objs.size] }
end
end Dn
set_option maxHeartbeats 2000000
namespace Dm
open PySem Dn
abbrev Env := Dn.Env
def Wo {α : Type} (o : Option α) (Q : α → Prop) : Prop := ∃ a, o = some a ∧ Q a
def Wm {α : Type} (g : Md α) (ρ : Env) (Q : α → Env → Prop) : Prop := Wo (g ρ) fun p => Q p.1 p.2
def Ws (g : Sd) (ρ : Env) (Q : Fl → Env → Prop) : Prop := Wo (g ρ) fun p => Q p.1 p.2
section
variable {α β : Type} {ρ : Env}
theorem wo_some {a : α} {Q : α → Prop} : Wo (some a) Q ↔ Q a := ⟨fun ⟨_, e, q⟩ => by cases e; exact q, fun q => ⟨a, rfl, q⟩⟩
theorem wo_none {Q : α → Prop} : Wo (none : Option α) Q ↔ False := ⟨fun ⟨_, e, _⟩ => (by cases e), False.elim⟩
theorem wo_bind {o : Option α} {f : α → Option β} {Q : β → Prop} : Wo (o.bind f) Q ↔ Wo o fun a => Wo (f a) Q := by
  cases o with
  | none => exact ⟨fun ⟨_, e, _⟩ => (by cases e), fun ⟨_, e, _⟩ => (by cases e)⟩
  | some a => exact ⟨fun h => ⟨a, rfl, h⟩, fun ⟨_, e, h⟩ => by cases e; exact h⟩
theorem wo_mono {o : Option α} {Q Q' : α → Prop} (h : Wo o Q) (i : ∀ a, Q a → Q' a) : Wo o Q' := let ⟨a, e, q⟩ := h; ⟨a, e, i a q⟩
theorem wo_ite {c : Prop} [Decidable c] {a b : Option α} {Q : α → Prop} : Wo (if c then a else b) Q ↔ if c then Wo a Q else Wo b Q := by
  by_cases h : c
  · rw [if_pos h, if_pos h]
  · rw [if_neg h, if_neg h]
theorem wo_eq {o : Option α} {a : α} : Wo o (fun x => x = a) ↔ o = some a := ⟨fun ⟨_, e, q⟩ => by rw [e, q], fun h => ⟨a, h, rfl⟩⟩
def valOf : Option (Option Cell) → Option D
  | some (some (.val d)) => some d
  | _ => none
theorem valOf_val {d : D} : valOf (some (some (.val d))) = some d := rfl
/-- own lists that are looked at -/
def frzOf (i : Nat) (ρ : Env) : Option (Option Cell) → Option (D × Env)
  | some (some (.val d)) => some (d, ρ)
  | some (some (.own false d)) => if notT d = true then some (d, ρ.set i (some (.val d))) else none
  | _ => none
theorem frz_val {i : Nat} {d : D} : frzOf i ρ (some (some (.val d))) = some (d, ρ) := rfl
theorem frz_own {i : Nat} {xs : List D} : frzOf i ρ (some (some (.own false (.list xs)))) = some (.list xs, ρ.set i (some (.val (.list xs)))) := rfl
theorem frz_ownD {i : Nat} {xs : List (D × D)} : frzOf i ρ (some (some (.own false (.dict xs)))) = some (.dict xs, ρ.set i (some (.val (.dict xs)))) := rfl
def cOwn : Option (Option Cell) → Option (Bool × D)
  | some (some (.own b d)) => some (b, d)
  | _ => none
theorem cOwn_own {b : Bool} {d : D} : cOwn (some (some (.own b d))) = some (b, d) := rfl
def peekOf : Option (Option Cell) → Option D
  | some (some (.val d)) => some d
  | some (some (.own _ d)) => if notT d = true then some d else none
  | _ => none
theorem peek_val {d : D} : peekOf (some (some (.val d))) = some d := rfl
theorem peek_own {b : Bool} {xs : List D} : peekOf (some (some (.own b (.list xs)))) = some (.list xs) := rfl
theorem peek_ownD {b : Bool} {xs : List (D × D)} : peekOf (some (some (.own b (.dict xs)))) = some (.dict xs) := rfl
theorem ixO_l {xs : List D} {x : D} : ixO (.list xs) x = ixD (.list xs) x := rfl
theorem ixO_d {xs : List (D × D)} {x : D} : ixO (.dict xs) x = ixD (.dict xs) x := rfl
def canSet : Option (Option Cell) → Option Unit
  | some (some (.own true _)) => none
  | some _ => some ()
  | none => none
theorem canSet_none : canSet (some none) = some () := rfl
theorem canSet_val {d : D} : canSet (some (some (.val d))) = some () := rfl
theorem canSet_own {d : D} : canSet (some (some (.own false d))) = some () := rfl
def lstOf : D → Option (List D)
  | .list ds => some ds
  | _ => none
theorem lstOf_list {ds : List D} : lstOf (.list ds) = some ds := rfl
variable {Q : D → Env → Prop}
theorem wm_c {d : D} : Wm (gC d) ρ Q ↔ Q d ρ := wo_some
theorem wm_var {i : Nat} : Wm (gVar i) ρ Q ↔ Wo (valOf ρ[i]?) fun d => Q d ρ := by
  unfold Wm gVar
  split
  · rename_i d h
    rw [h, wo_some, valOf_val, wo_some]
  · rename_i h
    have e : valOf ρ[i]? = none := by
      unfold valOf
      split
      · rename_i d z
        exact absurd z (h d)
      · rfl
    rw [e, wo_none, wo_none]
theorem wm_frz {i : Nat} : Wm (gFrz i) ρ Q ↔ Wo (frzOf i ρ ρ[i]?) fun p => Q p.1 p.2 := by
  unfold Wm gFrz frzOf
  exact Iff.rfl
theorem wm_bin {f : D → D → Option D} {a b : Md D} : Wm (gBin f a b) ρ Q ↔ Wm a ρ fun x ρ1 => Wm b ρ1 fun y ρ2 => Wo (f x y) fun r => Q r ρ2 := by
  unfold Wm gBin
  simp only [wo_bind, wo_some]
theorem wm_un {f : D → Option D} {a : Md D} : Wm (gUn f a) ρ Q ↔ Wm a ρ fun x ρ1 => Wo (f x) fun r => Q r ρ1 := by
  unfold Wm gUn
  simp only [wo_bind, wo_some]
theorem wm_tst {a : Md D} {Q : Bool → Env → Prop} : Wm (gTst a) ρ Q ↔ Wm a ρ fun x ρ1 => Wo (bOf x) fun b => Q b ρ1 := by
  unfold Wm gTst
  simp only [wo_bind, wo_some]
theorem wm_tru {a : Md D} {Q : Bool → Env → Prop} : Wm (gTru a) ρ Q ↔ Wm a ρ fun x ρ1 => Wo (truT x) fun b => Q b ρ1 := by
  unfold Wm gTru
  simp only [wo_bind, wo_some]
theorem wm_truB {i : Nat} {Q : Bool → Env → Prop} : Wm (gTruB i) ρ Q ↔ Wo (peekOf ρ[i]?) fun d => Wo (truT d) fun b => Q b ρ := by
  unfold Wm gTruB
  simp only [wo_bind, wo_some]
  exact Iff.rfl
theorem wm_chain {f f' : D → D → Option D} {a b c : Md D} : Wm (gChain f f' a b c) ρ Q ↔ Wm a ρ fun x ρ1 => Wm b ρ1 fun y ρ2 => Wo (f x y) fun r => Wo (bOf r) fun t =>
    if t = true then Wm c ρ2 fun z ρ3 => Wo (f' y z) fun r => Q r ρ3 else Q (.bool false) ρ2 := by
  unfold Wm gChain
  simp only [wo_bind, wo_some, wo_ite]
theorem wm_and {a b : Md Bool} {Q : Bool → Env → Prop} : Wm (gAnd a b) ρ Q ↔ Wm a ρ fun x ρ1 => if x = true then Wm b ρ1 Q else Q false ρ1 := by
  unfold Wm gAnd
  simp only [wo_bind, wo_some, wo_ite]
theorem wm_or {a b : Md Bool} {Q : Bool → Env → Prop} : Wm (gOr a b) ρ Q ↔ Wm a ρ fun x ρ1 => if x = true then Q true ρ1 else Wm b ρ1 Q := by
  unfold Wm gOr
  simp only [wo_bind, wo_some, wo_ite]
theorem wm_not {a : Md Bool} {Q : Bool → Env → Prop} : Wm (gNot a) ρ Q ↔ Wm a ρ fun x ρ1 => Q (!x) ρ1 := by
  unfold Wm gNot
  simp only [wo_bind, wo_some]
theorem wm_andV {a b : Md D} : Wm (gAndV a b) ρ Q ↔ Wm a ρ fun x ρ1 => Wo (bOf x) fun t => if t = true then Wm b ρ1 Q else Q (.bool false) ρ1 := by
  unfold Wm gAndV
  simp only [wo_bind, wo_some, wo_ite]
theorem wm_orV {a b : Md D} : Wm (gOrV a b) ρ Q ↔ Wm a ρ fun x ρ1 => Wo (bOf x) fun t => if t = true then Q (.bool true) ρ1 else Wm b ρ1 Q := by
  unfold Wm gOrV
  simp only [wo_bind, wo_some, wo_ite]
theorem wm_notV {a : Md D} : Wm (gNotV a) ρ Q ↔ Wm a ρ fun x ρ1 => Wo (bOf x) fun t => Q (.bool !t) ρ1 := by
  unfold Wm gNotV
  simp only [wo_bind, wo_some]
theorem wm_ifE {c : Md Bool} {a b : Md D} : Wm (gIfE c a b) ρ Q ↔ Wm c ρ fun x ρ1 => if x = true then Wm a ρ1 Q else Wm b ρ1 Q := by
  unfold Wm gIfE
  simp only [wo_bind, wo_some, wo_ite]
theorem wm_nil {Q : List D → Env → Prop} : Wm gNil ρ Q ↔ Q [] ρ := wo_some
theorem wm_cons {a : Md D} {b : Md (List D)} {Q : List D → Env → Prop} : Wm (gCons a b) ρ Q ↔ Wm a ρ fun x ρ1 => Wm b ρ1 fun y ρ2 => Q (x :: y) ρ2 := by
  unfold Wm gCons
  simp only [wo_bind, wo_some]
theorem wm_app {f : List D → Option D} {a : Md (List D)} : Wm (gApp f a) ρ Q ↔ Wm a ρ fun x ρ1 => Wo (f x) fun r => Q r ρ1 := by
  unfold Wm gApp
  simp only [wo_bind, wo_some]
theorem wm_noP {Q : Option Int → Env → Prop} : Wm gNoP ρ Q ↔ Q none ρ := wo_some
theorem wm_part {a : Md D} {Q : Option Int → Env → Prop} : Wm (gPart a) ρ Q ↔ Wm a ρ fun x ρ1 => Wo (iOf x) fun i => Q (some i) ρ1 := by
  unfold Wm gPart
  simp only [wo_bind, wo_some]
theorem wm_sl {a : Md D} {l h : Md (Option Int)} : Wm (gSl a l h) ρ Q ↔ Wm a ρ fun x ρ1 => Wm l ρ1 fun i ρ2 => Wm h ρ2 fun j ρ3 => Wo (cutD x i j) fun r => Q r ρ3 := by
  unfold Wm gSl
  simp only [wo_bind, wo_some]
theorem wm_pk {i : Nat} {f : List D → Option D} : Wm (gPk i f) ρ Q ↔ Wo (peekOf ρ[i]?) fun d => Wo (f [d]) fun r => flatD r = true ∧ Q r ρ := by
  unfold Wm gPk
  simp only [wo_bind]
  refine Iff.of_eq (congrArg _ (funext fun d => congrArg _ (funext fun r => ?_)))
  rw [wo_ite, wo_some, wo_none]
  by_cases h : flatD r = true
  · rw [if_pos h]; simp [h]
  · rw [if_neg h]; simp [h]
theorem cOwn_some {o : Option (Option Cell)} {p : Bool × D} (h : cOwn o = some p) : o = some (some (.own p.1 p.2)) := by
  unfold cOwn at h
  split at h
  · cases h; rfl
  · cases h
theorem wm_io {i : Nat} {f : D → List D → Option (D × D)} {a : Md (List D)} : Wm (gCallIO i f a) ρ Q ↔ Wo (cOwn ρ[i]?) fun _ => Wm a ρ fun ds ρ1 => Wo (cOwn ρ1[i]?) fun c => Wo (f c.2 ds) fun r => Q r.1 (ρ1.set i (some (.own c.1 r.2))) := by
  unfold Wm gCallIO
  split
  · rename_i b d h
    rw [h, cOwn_own, wo_some, wo_bind]
    refine Iff.of_eq (congrArg _ (funext fun p => ?_))
    try dsimp only
    split
    · rename_i b1 d1 h1
      rw [h1, cOwn_own, wo_some, wo_bind]
      simp only [wo_some]
    · rename_i h1
      have e : cOwn p.2[i]? = none := by
        unfold cOwn
        split
        · rename_i b2 d2 z
          exact absurd z (h1 b2 d2)
        · rfl
      rw [e, wo_none, wo_none]
  · rename_i h
    have e : cOwn ρ[i]? = none := by
      unfold cOwn
      split
      · rename_i b2 d2 z
        exact absurd z (h b2 d2)
      · rfl
    rw [e, wo_none, wo_none]
theorem wm_ixB_val {i : Nat} {a : Md D} {d : D} (h : ρ[i]? = some (some (.val d))) : Wm (gIxB i a) ρ Q ↔ Wm a ρ fun x ρ1 => Wo (ixD d x) fun r => Q r ρ1 := by
  unfold Wm gIxB
  rw [h]
  simp only [wo_bind, wo_some]
theorem wm_ixB {i : Nat} {a : Md D} {b : Bool} {d : D} (h : ρ[i]? = some (some (.own b d))) : Wm (gIxB i a) ρ Q ↔ Wm a ρ fun x ρ1 => Wo (cOwn ρ1[i]?) fun c => Wo (ixO c.2 x) fun r => Q r ρ1 := by
  unfold Wm gIxB
  rw [h]
  simp only [wo_bind]
  refine Iff.of_eq (congrArg _ (funext fun p => ?_))
  try dsimp only
  split
  · rename_i b1 d1 h1
    rw [h1, cOwn_own, wo_some, wo_bind]
    simp only [wo_some]
  · rename_i h1
    have e : cOwn p.2[i]? = none := by
      unfold cOwn
      split
      · rename_i b2 d2 z
        exact absurd z (h1 b2 d2)
      · rfl
    rw [e, wo_none, wo_none]
def byCell (o : Option (Option Cell)) (p : D → Prop) (q : Prop) : Prop := match o with
  | some (some (.val d)) => p d
  | some (some (.own _ _)) => q
  | _ => False
theorem by_val {d : D} {p : D → Prop} {q : Prop} : byCell (some (some (.val d))) p q ↔ p d := Iff.rfl
theorem by_own {b : Bool} {d : D} {p : D → Prop} {q : Prop} : byCell (some (some (.own b d))) p q ↔ q := Iff.rfl
theorem wm_ix {i : Nat} {a : Md D} : Wm (gIxB i a) ρ Q ↔ byCell ρ[i]? (fun d => Wm a ρ fun x ρ1 => Wo (ixD d x) fun r => Q r ρ1) (Wm a ρ fun x ρ1 => Wo (cOwn ρ1[i]?) fun c => Wo (ixO c.2 x) fun r => Q r ρ1) := by
  cases h : ρ[i]? with
  | none =>
    unfold Wm gIxB
    rw [h, wo_none]
    exact Iff.rfl
  | some o =>
    cases o with
    | none =>
      unfold Wm gIxB
      rw [h, wo_none]
      exact Iff.rfl
    | some c =>
      cases c with
      | val d => exact wm_ixB_val h
      | own b d => exact wm_ixB h
theorem wm_inB {neg : Bool} {i : Nat} {a : Md D} : Wm (gInB neg i a) ρ Q ↔ Wm a ρ fun x ρ1 => Wo (peekOf ρ1[i]?) fun e => Wo (inT x e) fun b => Q (.bool (if neg = true then !b else b)) ρ1 := by
  unfold Wm gInB
  simp only [wo_bind, wo_some]
  exact Iff.rfl
theorem wm_true {Q : Bool → Env → Prop} : Wm gTrue ρ Q ↔ Q true ρ := wo_some
theorem wm_seq {a : Md D} {Q : List D → Env → Prop} : Wm (gSeq a) ρ Q ↔ Wm a ρ fun x ρ1 => Wo (seqOf x) fun ds => Q ds ρ1 := by
  unfold Wm gSeq
  simp only [wo_bind, wo_some]
def oneInt : List D → Option Int
  | [.int j] => if small62 j = true then some j else none
  | _ => none
theorem oneInt_int {j : Int} : oneInt [.int j] = if small62 j = true then some j else none := rfl
theorem wm_rng1 {a : Md (List D)} {Q : List D → Env → Prop} : Wm (gRng1 a) ρ Q ↔ Wm a ρ fun x ρ1 => Wo (oneInt x) fun j => Q (rngL 0 j.toNat) ρ1 := by
  unfold Wm gRng1
  rw [wo_bind]
  refine Iff.of_eq (congrArg _ (funext fun p => ?_))
  try dsimp only
  split
  · rename_i j e
    rw [e, oneInt_int, wo_ite, wo_ite, wo_some, wo_some, wo_none, wo_none]
  · rename_i h
    have e : oneInt p.1 = none := by
      unfold oneInt
      split
      · rename_i j z
        exact absurd z (h j)
      · rfl
    rw [e, wo_none, wo_none]
def twoInts : List D → Option (Int × Int)
  | [.int i, .int j] => if small62 i = true ∧ small62 j = true then some (i, j) else none
  | _ => none
theorem twoInts_int {i j : Int} : twoInts [.int i, .int j] = if small62 i = true ∧ small62 j = true then some (i, j) else none := rfl
theorem wm_rng2 {a : Md (List D)} {Q : List D → Env → Prop} : Wm (gRng2 a) ρ Q ↔ Wm a ρ fun x ρ1 => Wo (twoInts x) fun p => Q (rngL p.1 (p.2 - p.1).toNat) ρ1 := by
  unfold Wm gRng2
  rw [wo_bind]
  refine Iff.of_eq (congrArg _ (funext fun p => ?_))
  try dsimp only
  split
  · rename_i i j e
    rw [e, twoInts_int, wo_ite, wo_ite, wo_some, wo_some, wo_none, wo_none]
  · rename_i h
    have e : twoInts p.1 = none := by
      unfold twoInts
      split
      · rename_i i j z
        exact absurd z (h i j)
      · rfl
    rw [e, wo_none, wo_none]
def thenQ (t : Sd) (Q : Fl → Env → Prop) : Fl → Env → Prop
  | .nx, ρ => Ws t ρ Q
  | .ret d, ρ => Q (.ret d) ρ
  | .rof d, ρ => Q (.rof d) ρ
  | .brk, ρ => Q .brk ρ
  | .cnt, ρ => Q .cnt ρ
variable {R : Fl → Env → Prop}
theorem then_nx {t : Sd} : thenQ t R .nx ρ ↔ Ws t ρ R := Iff.rfl
theorem then_ret {t : Sd} {d : D} : thenQ t R (.ret d) ρ ↔ R (.ret d) ρ := Iff.rfl
theorem then_rof {t : Sd} {d : D} : thenQ t R (.rof d) ρ ↔ R (.rof d) ρ := Iff.rfl
theorem then_brk {t : Sd} : thenQ t R .brk ρ ↔ R .brk ρ := Iff.rfl
theorem then_cnt {t : Sd} : thenQ t R .cnt ρ ↔ R .cnt ρ := Iff.rfl
theorem ws_next : Ws sNext ρ R ↔ R .nx ρ := wo_some
theorem ws_brk : Ws sBrk ρ R ↔ R .brk ρ := wo_some
theorem ws_cnt : Ws sCnt ρ R ↔ R .cnt ρ := wo_some
theorem ws_seq {s t : Sd} : Ws (sSeq s t) ρ R ↔ Ws s ρ (thenQ t R) := by
  unfold Ws sSeq
  rw [wo_bind]
  refine Iff.of_eq (congrArg _ (funext fun p => ?_))
  try dsimp only
  obtain ⟨f, ρ1⟩ := p
  cases f with
  | nx => rfl
  | ret d => exact propext wo_some
  | rof d => exact propext wo_some
  | brk => exact propext wo_some
  | cnt => exact propext wo_some
theorem ws_if {g : Md Bool} {s t : Sd} : Ws (sIf g s t) ρ R ↔ Wm g ρ fun b ρ1 => if b = true then Ws s ρ1 R else Ws t ρ1 R := by
  unfold Ws Wm sIf
  simp only [wo_bind, wo_ite]
theorem ws_ret {g : Md D} : Ws (sRet g) ρ R ↔ Wm g ρ fun d ρ1 => R (.ret d) ρ1 := by
  unfold Ws Wm sRet
  simp only [wo_bind, wo_some]
theorem ws_rof {g : Md D} : Ws (sRof g) ρ R ↔ Wm g ρ fun d ρ1 => R (.rof d) ρ1 := by
  unfold Ws Wm sRof
  simp only [wo_bind, wo_some]
theorem ws_drop {g : Md D} : Ws (sDrop g) ρ R ↔ Wm g ρ fun _ ρ1 => R .nx ρ1 := by
  unfold Ws Wm sDrop
  simp only [wo_bind, wo_some]
theorem setC_eq {i : Nat} {c : Cell} : setC i c ρ = (canSet ρ[i]?).bind fun _ => some (ρ.set i (some c)) := by
  unfold setC canSet
  split <;> rename_i h <;> simp only [h] <;> try rfl
theorem ws_set {i : Nat} {g : Md D} : Ws (sSet i g) ρ R ↔ Wm g ρ fun d ρ1 => Wo (canSet ρ1[i]?) fun _ => R .nx (ρ1.set i (some (.val d))) := by
  unfold Ws Wm sSet
  simp only [wo_bind, wo_some, setC_eq]
theorem ws_own {i : Nat} {g : Md D} : Ws (sOwn i g) ρ R ↔ Wm g ρ fun d ρ1 => Wo (canSet ρ1[i]?) fun _ => R .nx (ρ1.set i (some (.own false d))) := by
  unfold Ws Wm sOwn
  simp only [wo_bind, wo_some, setC_eq]
theorem ws_asg {g : Md D} {t : D → Env → Option Env} : Ws (sAsg g t) ρ R ↔ Wm g ρ fun d ρ1 => Wo (t d ρ1) fun r => R .nx r := by
  unfold Ws Wm sAsg
  simp only [wo_bind, wo_some]
theorem wo_TN {i : Nat} {d : D} {Q : Env → Prop} : Wo (gTN i d ρ) Q ↔ Wo (canSet ρ[i]?) fun _ => Q (ρ.set i (some (.val d))) := by
  unfold gTN
  simp only [setC_eq, wo_bind, wo_some]
theorem wo_TNil {Q : Env → Prop} : Wo (gTNil [] ρ) Q ↔ Q ρ := wo_some
theorem wo_TCons {g : D → Env → Option Env} {gs : List D → Env → Option Env} {d : D} {ds : List D} {Q : Env → Prop} : Wo (gTCons g gs (d :: ds) ρ) Q ↔ Wo (g d ρ) fun ρ1 => Wo (gs ds ρ1) Q := wo_bind
theorem wo_TTup {n : Nat} {gs : List D → Env → Option Env} {ds : List D} {Q : Env → Prop} : Wo (gTTup n gs (.tuple ds) ρ) Q ↔ ds.length = n ∧ Wo (gs ds ρ) Q := by
  show Wo (if ds.length = n then gs ds ρ else none) Q ↔ _
  by_cases h : ds.length = n
  · rw [if_pos h]; simp [h]
  · rw [if_neg h, wo_none]; simp [h]
theorem ws_app {i : Nat} {g : Md D} {b0 : Bool} {xs : List D} (h : ρ[i]? = some (some (.own b0 (.list xs)))) : Ws (sApp i g) ρ R ↔ Wm g ρ fun d ρ1 => Wo (cOwn ρ1[i]?) fun c => Wo (lstOf c.2) fun ds => ds.length < 16777216 ∧ R .nx (ρ1.set i (some (.own c.1 (.list (ds ++ [d]))))) := by
  unfold Ws Wm sApp
  rw [h]
  simp only [wo_bind]
  refine Iff.of_eq (congrArg _ (funext fun p => ?_))
  try dsimp only
  split
  · rename_i b1 ds h1
    rw [h1, cOwn_own, wo_some]
    show _ = Wo (lstOf (.list ds)) _
    rw [lstOf_list, wo_some]
    by_cases hl : ds.length < 16777216
    · rw [if_pos hl, wo_some]; simp [hl]
    · rw [if_neg hl, wo_none]; simp [hl]
  · rename_i h1
    cases q : cOwn p.2[i]? with
    | none => rw [wo_none, wo_none]
    | some c =>
      have e := cOwn_some q
      rw [wo_none, wo_some]
      cases z : c.2 with
      | list ds => exact absurd (by rw [e, z]) (h1 c.1 ds)
      | none => exact propext ⟨False.elim, fun ⟨_, e, _⟩ => (by cases e)⟩
      | bool _ => exact propext ⟨False.elim, fun ⟨_, e, _⟩ => (by cases e)⟩
      | int _ => exact propext ⟨False.elim, fun ⟨_, e, _⟩ => (by cases e)⟩
      | str _ => exact propext ⟨False.elim, fun ⟨_, e, _⟩ => (by cases e)⟩
      | tuple _ => exact propext ⟨False.elim, fun ⟨_, e, _⟩ => (by cases e)⟩
      | dict _ => exact propext ⟨False.elim, fun ⟨_, e, _⟩ => (by cases e)⟩
theorem ws_ap {i : Nat} {g : Md D} : Ws (sApp i g) ρ R ↔ Wo (cOwn ρ[i]?) fun c0 => Wo (lstOf c0.2) fun _ => Wm g ρ fun d ρ1 => Wo (cOwn ρ1[i]?) fun c => Wo (lstOf c.2) fun ds => ds.length < 16777216 ∧ R .nx (ρ1.set i (some (.own c.1 (.list (ds ++ [d]))))) := by
  cases h : cOwn ρ[i]? with
  | none =>
    rw [wo_none]
    unfold Ws sApp
    split
    · rename_i b0 d0 h0
      rw [h0] at h
      cases h
    · rw [wo_none]
  | some c =>
    have e := cOwn_some h
    rw [wo_some]
    cases z : c.2 with
    | list xs =>
      rw [z] at e
      rw [lstOf_list, wo_some]
      exact ws_app e
    | none => exact ⟨fun ⟨_, q, _⟩ => (by rw [z] at e; unfold sApp at q; rw [e] at q; cases q), fun ⟨_, q, _⟩ => (by cases q)⟩
    | bool _ => exact ⟨fun ⟨_, q, _⟩ => (by rw [z] at e; unfold sApp at q; rw [e] at q; cases q), fun ⟨_, q, _⟩ => (by cases q)⟩
    | int _ => exact ⟨fun ⟨_, q, _⟩ => (by rw [z] at e; unfold sApp at q; rw [e] at q; cases q), fun ⟨_, q, _⟩ => (by cases q)⟩
    | str _ => exact ⟨fun ⟨_, q, _⟩ => (by rw [z] at e; unfold sApp at q; rw [e] at q; cases q), fun ⟨_, q, _⟩ => (by cases q)⟩
    | tuple _ => exact ⟨fun ⟨_, q, _⟩ => (by rw [z] at e; unfold sApp at q; rw [e] at q; cases q), fun ⟨_, q, _⟩ => (by cases q)⟩
    | dict _ => exact ⟨fun ⟨_, q, _⟩ => (by rw [z] at e; unfold sApp at q; rw [e] at q; cases q), fun ⟨_, q, _⟩ => (by cases q)⟩
theorem ws_setIx {i : Nat} {gv gi : Md D} : Ws (sSetIx i gv gi) ρ R ↔ Wm gv ρ fun d ρ1 => Wo (cOwn ρ1[i]?) fun _ => Wm gi ρ1 fun x ρ2 => Wo (iOf x) fun z => Wo (cOwn ρ2[i]?) fun c => Wo (lstOf c.2) fun ds => Wo (ixS ds.length z) fun j => R .nx (ρ2.set i (some (.own c.1 (.list (ds.set j d))))) := by
  unfold Ws Wm sSetIx
  rw [wo_bind]
  refine Iff.of_eq (congrArg _ (funext fun p => ?_))
  try dsimp only
  split
  · rename_i b0 d0 h0
    rw [h0, cOwn_own, wo_some, wo_bind]
    refine congrArg _ (funext fun q => ?_)
    try dsimp only
    rw [wo_bind]
    refine congrArg _ (funext fun z => ?_)
    try dsimp only
    split
    · rename_i b1 ds h1
      rw [h1, cOwn_own, wo_some, wo_bind]
      show _ = Wo (lstOf (.list ds)) _
      rw [lstOf_list, wo_some]
      simp only [wo_some]
    · rename_i h1
      cases q2 : cOwn q.2[i]? with
      | none => rw [wo_none, wo_none]
      | some c =>
        have e := cOwn_some q2
        rw [wo_none, wo_some]
        cases z : c.2 with
        | list ds => exact absurd (by rw [e, z]) (h1 c.1 ds)
        | none => exact propext ⟨False.elim, fun ⟨_, e, _⟩ => (by cases e)⟩
        | bool _ => exact propext ⟨False.elim, fun ⟨_, e, _⟩ => (by cases e)⟩
        | int _ => exact propext ⟨False.elim, fun ⟨_, e, _⟩ => (by cases e)⟩
        | str _ => exact propext ⟨False.elim, fun ⟨_, e, _⟩ => (by cases e)⟩
        | tuple _ => exact propext ⟨False.elim, fun ⟨_, e, _⟩ => (by cases e)⟩
        | dict _ => exact propext ⟨False.elim, fun ⟨_, e, _⟩ => (by cases e)⟩
  · rename_i h
    have e : cOwn p.2[i]? = none := by
      unfold cOwn
      split
      · rename_i b2 d2 z
        exact absurd z (h b2 d2)
      · rfl
    rw [e, wo_none, wo_none]
theorem ws_for {gi : Md (List D)} {tg : D → Env → Option Env} {b : Sd} : Ws (sFor gi tg b) ρ R ↔ Wm gi ρ fun ds ρ1 => Ws (forD tg b ds) ρ1 R := by
  unfold Ws Wm sFor
  rw [wo_bind]
theorem ws_mono {s : Sd} {R R' : Fl → Env → Prop} (h : Ws s ρ R) (i : ∀ f ρ', R f ρ' → R' f ρ') : Ws s ρ R' := wo_mono h fun p => i p.1 p.2
/-- every turn goes on -/
theorem for_all {tg : D → Env → Option Env} {b : Sd} (I : List D → Env → Prop) : ∀ (ds pre : List D) (ρ : Env), I pre ρ →
    (∀ (p : List D) (d : D) (r : List D) (ρ : Env), pre ++ ds = p ++ d :: r → I p ρ → Wo (tg d ρ) fun ρ1 => Ws b ρ1 fun f ρ2 => (f = .nx ∨ f = .cnt) ∧ I (p ++ [d]) ρ2) →
    Ws (forD tg b ds) ρ fun f ρ' => f = .nx ∧ I (pre ++ ds) ρ'
  | [], pre, ρ, h, _ => ⟨(.nx, ρ), rfl, rfl, by rw [List.append_nil]; exact h⟩
  | d :: ds, pre, ρ, h, st => by
    obtain ⟨ρ1, e1, ⟨f, ρ2⟩, e2, hf, h2⟩ := st pre d ds ρ rfl h
    have ih := for_all I ds (pre ++ [d]) ρ2 h2 (fun p d' r ρ' e => st p d' r ρ' (by rw [← e]; simp))
    obtain ⟨⟨f', ρ'⟩, e3, h3, h4⟩ := ih
    refine ⟨(f', ρ'), ?_, h3, by simpa using h4⟩
    have hf' : f = .nx ∨ f = .cnt := hf
    show ((tg d ρ).bind fun ρ1 => (b ρ1).bind _) = _
    rw [e1]
    show ((b ρ1).bind _) = _
    rw [e2]
    rcases hf' with z | z
    · subst z; exact e3
    · subst z; exact e3
theorem ws_forall {tg : D → Env → Option Env} {b : Sd} {ds : List D} (I : List D → Env → Prop) (h0 : I [] ρ)
    (st : ∀ (p : List D) (d : D) (r : List D) (ρ : Env), ds = p ++ d :: r → I p ρ → Wo (tg d ρ) fun ρ1 => Ws b ρ1 fun f ρ2 => (f = .nx ∨ f = .cnt) ∧ I (p ++ [d]) ρ2)
    (fin : ∀ ρ', I ds ρ' → R .nx ρ') : Ws (forD tg b ds) ρ R :=
  ws_mono (for_all I ds [] ρ h0 fun p d r ρ e => st p d r ρ (by simpa using e)) fun f ρ' ⟨h1, h2⟩ => by
    subst h1
    exact fin ρ' (by simpa using h2)
theorem for_nil {tg : D → Env → Option Env} {b : Sd} : Ws (forD tg b []) ρ R ↔ R .nx ρ := wo_some
def turnQ (t : Sd) (R : Fl → Env → Prop) : Fl → Env → Prop
  | .nx, ρ => Ws t ρ R
  | .cnt, ρ => Ws t ρ R
  | .brk, ρ => R .nx ρ
  | .ret d, ρ => R (.ret d) ρ
  | .rof d, ρ => R (.rof d) ρ
theorem turn_nx {t : Sd} : turnQ t R .nx ρ ↔ Ws t ρ R := Iff.rfl
theorem turn_cnt {t : Sd} : turnQ t R .cnt ρ ↔ Ws t ρ R := Iff.rfl
theorem turn_brk {t : Sd} : turnQ t R .brk ρ ↔ R .nx ρ := Iff.rfl
theorem turn_ret {t : Sd} {d : D} : turnQ t R (.ret d) ρ ↔ R (.ret d) ρ := Iff.rfl
theorem turn_rof {t : Sd} {d : D} : turnQ t R (.rof d) ρ ↔ R (.rof d) ρ := Iff.rfl
theorem for_cons {tg : D → Env → Option Env} {b : Sd} {d : D} {ds : List D} : Ws (forD tg b (d :: ds)) ρ R ↔ Wo (tg d ρ) fun ρ1 => Ws b ρ1 (turnQ (forD tg b ds) R) := by
  show Wo ((tg d ρ).bind fun ρ1 => (b ρ1).bind _) _ ↔ _
  rw [wo_bind]
  refine Iff.of_eq (congrArg _ (funext fun ρ1 => ?_))
  try dsimp only
  rw [wo_bind]
  unfold Ws
  refine congrArg _ (funext fun p => ?_)
  try dsimp only
  obtain ⟨f, ρ2⟩ := p
  cases f with
  | nx => rfl
  | cnt => rfl
  | ret d => exact propext wo_some
  | rof d => exact propext wo_some
  | brk => exact propext wo_some
theorem wm_lc {vs : List Nat} {gi : Md (List D)} {tg : D → Env → Option Env} {tt : Md Bool} {te : Md D} : Wm (gLc vs gi tg tt te) ρ Q ↔ Wm gi ρ fun ds ρ1 => (ds.length ≤ 16777216 ∧ vs.all (notOwn ρ1) = true) ∧ Wo (lcD vs tg tt te ds (wipeE ρ1 vs)) fun r => Q (.list r.1) (backE ρ1 vs r.2) := by
  unfold Wm gLc
  rw [wo_bind]
  refine Iff.of_eq (congrArg _ (funext fun p => ?_))
  try dsimp only
  by_cases h : p.1.length ≤ 16777216 ∧ vs.all (notOwn p.2) = true
  · rw [if_pos h, wo_bind]
    simp only [wo_some]
    exact propext ⟨fun z => ⟨h, z⟩, fun z => z.2⟩
  · rw [if_neg h, wo_none]
    exact propext ⟨False.elim, fun z => h z.1⟩
theorem lc_nil {vs : List Nat} {tg : D → Env → Option Env} {tt : Md Bool} {te : Md D} {Q : List D × Env → Prop} : Wo (lcD vs tg tt te [] ρ) Q ↔ Q ([], ρ) := wo_some
theorem lc_cons {vs : List Nat} {tg : D → Env → Option Env} {tt : Md Bool} {te : Md D} {d : D} {ds : List D} {Q : List D × Env → Prop} : Wo (lcD vs tg tt te (d :: ds) ρ) Q ↔ Wo (tg d ρ) fun ρ1 => Wm tt ρ1 fun b ρ2 =>
    if b = true then Wm te ρ2 fun y ρ3 => Wo (lcD vs tg tt te ds (wipeE ρ3 vs)) fun r => Q (y :: r.1, r.2) else Wo (lcD vs tg tt te ds (wipeE ρ2 vs)) Q := by
  show Wo ((tg d ρ).bind fun ρ1 => (tt ρ1).bind _) _ ↔ _
  unfold Wm
  simp only [wo_bind, wo_some, wo_ite]
theorem lc_mapA {α : Type} {vs : List Nat} {tg : D → Env → Option Env} {te : Md D} (h f : α → D) {Q : List D × Env → Prop} : ∀ (xs : List α), (∀ x ∈ xs, Wo (tg (h x) ρ) fun ρ1 => Wm te ρ1 fun y ρ2 => y = f x ∧ wipeE ρ2 vs = ρ) → Q (xs.map f, ρ) → Wo (lcD vs tg gTrue te (xs.map h) ρ) Q
  | [], _, q => lc_nil.mpr q
  | d :: ds, hs, q => by
    rw [List.map_cons, lc_cons]
    refine wo_mono (hs d List.mem_cons_self) fun ρ1 h1 => ?_
    rw [wm_true, if_pos rfl]
    refine wo_mono h1 fun p h2 => ?_
    dsimp only at h2 ⊢
    rw [h2.2]
    refine lc_mapA h f (Q := fun r => Q (p.1 :: r.1, r.2)) ds (fun d' hd => hs d' (List.mem_cons_of_mem _ hd)) ?_
    rw [h2.1]
    exact q
theorem lc_inv {vs : List Nat} {tg : D → Env → Option Env} {te : Md D} (I : List D → List D → Env → Prop) {Q : List D × Env → Prop} : ∀ (ds pre acc : List D) (ρ : Env), I pre acc ρ →
    (∀ (p : List D) (d : D) (r a : List D) (ρ : Env), pre ++ ds = p ++ d :: r → I p a ρ → Wo (tg d ρ) fun ρ1 => Wm te ρ1 fun y ρ2 => I (p ++ [d]) (a ++ [y]) (wipeE ρ2 vs)) →
    (∀ a ρ', I (pre ++ ds) (acc ++ a) ρ' → Q (a, ρ')) → Wo (lcD vs tg gTrue te ds ρ) Q
  | [], pre, acc, ρ, h, _, q => lc_nil.mpr (q [] ρ (by rw [List.append_nil, List.append_nil]; exact h))
  | d :: ds, pre, acc, ρ, h, st, q => by
    rw [lc_cons]
    refine wo_mono (st pre d ds acc ρ rfl h) fun ρ1 h1 => ?_
    rw [wm_true, if_pos rfl]
    refine wo_mono h1 fun p h2 => ?_
    exact lc_inv I (Q := fun r => Q (p.1 :: r.1, r.2)) ds (pre ++ [d]) (acc ++ [p.1]) _ h2 (fun p' d' r a ρ' e => st p' d' r a ρ' (by rw [← e]; simp)) fun a ρ' hI => q (p.1 :: a) ρ' (by simpa using hI)
theorem wo_runV {N : Nat} {g : Sd} {ds : List D} {Q : D → Prop} : Wo (runV N g ds) Q ↔ Ws g (envV N ds) fun f ρ => Wo (endV (f, ρ)) Q := wo_bind
theorem wo_runF {N : Nat} {g : Sd} {ds : List D} {Q : D → Prop} : Wo (runF N g ds) Q ↔ Ws g (envV N ds) fun f ρ => Wo (endF (f, ρ)) Q := wo_bind
theorem wo_runIO {N : Nat} {g : Sd} {d : D} {ds : List D} {Q : D × D → Prop} : Wo (runIO N g d ds) Q ↔ Ws g (envIO N d ds) fun f ρ => Wo (endIO (f, ρ)) Q := wo_bind
theorem end_ret {d : D} {Q : D → Prop} : Wo (endV (.ret d, ρ)) Q ↔ Q d := wo_some
theorem end_nx {Q : D → Prop} : Wo (endV (.nx, ρ)) Q ↔ Q .none := wo_some
theorem end_rof {d : D} {Q : D → Prop} : Wo (endF (.rof d, ρ)) Q ↔ Q d := wo_some
theorem end_io {f : Fl} {Q : D × D → Prop} : Wo (endIO (f, ρ)) Q ↔ Wo (ownOf ρ[0]?) fun d => Wo (endV (f, ρ)) fun r => Q (r, d) := by
  unfold endIO
  simp only [wo_bind, wo_some]
theorem ownOf_own {d : D} : ownOf (some (some (.own true d))) = some d := rfl
end
section
variable {i j : Int} {a b : Str} {p q : Bool} {xs ys : List D} {d e : D}
theorem add_ii : addD (.int i) (.int j) = some (.int (i + j)) := rfl
theorem add_ll : addD (.list xs) (.list ys) = if xs.length + ys.length ≤ 16777216 then some (.list (xs ++ ys)) else none := rfl
theorem add_tt : addD (.tuple xs) (.tuple ys) = if xs.length + ys.length ≤ 16777216 then some (.tuple (xs ++ ys)) else none := rfl
theorem add_ss : addD (.str a) (.str b) = if a.length + b.length ≤ 16777216 then some (.str (a ++ b)) else none := rfl
theorem sub_ii : subD (.int i) (.int j) = some (.int (i - j)) := rfl
theorem mul_ii : mulD (.int i) (.int j) = if i.natAbs.log2 + j.natAbs.log2 < 1000000 then some (.int (i * j)) else none := rfl
theorem mulS_ii : mulS (.int i) (.int j) = if -(2 ^ 64) < j ∧ j < 2 ^ 64 then some (.int (i * j)) else none := rfl
theorem mod_ii : modD (.int i) (.int j) = if 0 < j then some (.int (i % j)) else none := rfl
theorem fdiv_ii : fdivD (.int i) (.int j) = if 0 < j ∧ j < 18446744073709551616 then some (.int (i / j)) else none := rfl
theorem neg_i : negD (.int i) = some (.int (-i)) := rfl
theorem le_ii : leD (.int i) (.int j) = some (.bool (decide (i ≤ j))) := rfl
theorem gt_ii : gtD (.int i) (.int j) = some (.bool (decide (j < i))) := rfl
theorem ge_ii : geD (.int i) (.int j) = some (.bool (decide (j ≤ i))) := rfl
theorem eqT_ii : eqT (.int i) (.int j) = some (decide (i = j)) := rfl
theorem eqT_ss : eqT (.str a) (.str b) = some (decide (a = b)) := rfl
theorem eqT_bb : eqT (.bool p) (.bool q) = some (decide (p = q)) := rfl
theorem eqT_nn : eqT .none .none = some true := rfl
theorem ltT_ii : ltT (.int i) (.int j) = some (decide (i < j)) := rfl
theorem ltT_ss : ltT (.str a) (.str b) = some (decide (a.cps.toList < b.cps.toList)) := rfl
theorem wo_eqD {Q : D → Prop} : Wo (eqD d e) Q ↔ Wo (eqT d e) fun b => Q (.bool b) := by
  unfold eqD
  simp only [wo_bind, wo_some]
theorem wo_neD {Q : D → Prop} : Wo (neD d e) Q ↔ Wo (eqT d e) fun b => Q (.bool (!b)) := by
  unfold neD
  simp only [wo_bind, wo_some]
theorem wo_ltD {Q : D → Prop} : Wo (ltD d e) Q ↔ Wo (ltT d e) fun b => Q (.bool b) := by
  unfold ltD
  simp only [wo_bind, wo_some]
theorem wo_inD {Q : D → Prop} : Wo (inD d e) Q ↔ Wo (inT d e) fun b => Q (.bool b) := by
  unfold inD
  simp only [wo_bind, wo_some]
theorem wo_ninD {Q : D → Prop} : Wo (ninD d e) Q ↔ Wo (inT d e) fun b => Q (.bool (!b)) := by
  unfold ninD
  simp only [wo_bind, wo_some]
theorem is_n : isD d .none = some (.bool (isN d)) := by cases d <;> rfl
theorem isnt_n : isntD d .none = some (.bool (!isN d)) := by cases d <;> rfl
theorem is_bb : isD (.bool p) (.bool q) = some (.bool (decide (p = q))) := rfl
theorem isnt_bb : isntD (.bool p) (.bool q) = some (.bool (!decide (p = q))) := rfl
theorem bOf_b : bOf (.bool p) = some p := rfl
theorem iOf_i : iOf (.int i) = some i := rfl
theorem tru_b : truT (.bool p) = some p := rfl
theorem tru_n : truT .none = some false := rfl
theorem tru_i : truT (.int i) = some (i != 0) := rfl
theorem tru_l : truT (.list xs) = some (!xs.isEmpty) := rfl
theorem tru_t : truT (.tuple xs) = some (!xs.isEmpty) := rfl
theorem seq_l : seqOf (.list xs) = some xs := rfl
theorem seq_t : seqOf (.tuple xs) = some xs := rfl
theorem tup_l : tupF [.list xs] = some (.tuple xs) := rfl
theorem tup_t : tupF [.tuple xs] = some (.tuple xs) := rfl
theorem lst_l : lstF [.list xs] = some (.list xs) := rfl
theorem lst_t : lstF [.tuple xs] = some (.list xs) := rfl
theorem len_l : lenF [.list xs] = some (.int xs.length) := rfl
theorem len_t : lenF [.tuple xs] = some (.int xs.length) := rfl
theorem int_i : intF [.int i] = some (.int i) := rfl
theorem int_b : intF [.bool p] = some (.int (if p then 1 else 0)) := rfl
theorem abs_i : absF [.int i] = some (.int (if i < 0 then -i else i)) := rfl
theorem max_ii : maxF [.int i, .int j] = some (.int (if j > i then j else i)) := rfl
theorem min_ii : minF [.int i, .int j] = some (.int (if j < i then j else i)) := rfl
theorem ix_li : ixD (.list xs) (.int i) = ixA xs i := rfl
theorem ix_ti : ixD (.tuple xs) (.int i) = ixA xs i := rfl
theorem cut_l {l h : Option Int} : cutD (.list xs) l h = some (.list (cutA xs l h)) := rfl
theorem cut_t {l h : Option Int} : cutD (.tuple xs) l h = some (.tuple (cutA xs l h)) := rfl
theorem flat_i : flatD (.int i) = true := rfl
theorem flat_b : flatD (.bool p) = true := rfl
theorem flat_s : flatD (.str a) = true := rfl
theorem ix0 {α : Type} {x : α} {xs : List α} : ixA (x :: xs) 0 = some x := rfl
theorem ix1 {α : Type} {x y : α} {xs : List α} : ixA (x :: y :: xs) 1 = some y := rfl
theorem ix2 {α : Type} {x y z : α} {xs : List α} : ixA (x :: y :: z :: xs) 2 = some z := rfl
theorem isi_1 {T : String} {Q : D → Prop} : Wo (isiF T [d]) Q ↔ tyOk d = true ∧ Wo (L2.kitB (tyD d) T) fun b => Q (.bool b) := by
  show Wo (if tyOk d = true then (L2.kitB (tyD d) T).bind fun b => some (.bool b) else none) Q ↔ _
  by_cases h : tyOk d = true
  · simp only [h, ↓reduceIte, wo_bind, wo_some, true_and]
  · simp only [h, ↓reduceIte, wo_none, false_and, Bool.false_eq_true]
theorem tyOk_n : tyOk .none = true := rfl
theorem tyOk_b : tyOk (.bool p) = true := rfl
theorem tyOk_i : tyOk (.int i) = true := rfl
theorem tyOk_s : tyOk (.str a) = true := rfl
theorem tyOk_l : tyOk (.list xs) = true := rfl
theorem tyOk_t : tyOk (.tuple xs) = true := rfl
theorem k_nb : L2.kitB "NoneType" "bool" = some false := by decide +kernel
theorem k_bb : L2.kitB "bool" "bool" = some true := by decide +kernel
theorem k_ib : L2.kitB "int" "bool" = some false := by decide +kernel
theorem k_sb : L2.kitB "str" "bool" = some false := by decide +kernel
theorem k_ni : L2.kitB "NoneType" "int" = some false := by decide +kernel
theorem k_bi : L2.kitB "bool" "int" = some true := by decide +kernel
theorem k_ii : L2.kitB "int" "int" = some true := by decide +kernel
theorem k_si : L2.kitB "str" "int" = some false := by decide +kernel
theorem k_ns : L2.kitB "NoneType" "str" = some false := by decide +kernel
theorem k_bs : L2.kitB "bool" "str" = some false := by decide +kernel
theorem k_is : L2.kitB "int" "str" = some false := by decide +kernel
theorem k_ss : L2.kitB "str" "str" = some true := by decide +kernel
theorem k_ll : L2.kitB "list" "list" = some true := by decide +kernel
theorem k_tt : L2.kitB "tuple" "tuple" = some true := by decide +kernel
theorem ty_n : tyD .none = "NoneType" := rfl
theorem ty_b : tyD (.bool p) = "bool" := rfl
theorem ty_i : tyD (.int i) = "int" := rfl
theorem ty_s : tyD (.str a) = "str" := rfl
theorem ty_l : tyD (.list xs) = "list" := rfl
theorem ty_t : tyD (.tuple xs) = "tuple" := rfl
theorem wm_enum {a : Md (List D)} {ρ : Env} {Q : List D → Env → Prop} : Wm (gEnum a) ρ Q ↔ Wm a ρ fun x ρ1 => Wo (enumOf x) fun ds => Q ds ρ1 := by
  show Wo ((a ρ).bind fun p => (enumOf p.1).bind fun ds => some (ds, p.2)) _ ↔ _
  unfold Wm
  simp only [wo_bind, wo_some]
theorem enum_l : enumOf [.list xs] = some (enumL 0 xs) := rfl
theorem enum_t : enumOf [.tuple xs] = some (enumL 0 xs) := rfl
theorem enumL_nil {n : Nat} : enumL n [] = [] := rfl
theorem enumL_cons {n : Nat} : enumL n (d :: xs) = .tuple [.int n, d] :: enumL (n + 1) xs := rfl
theorem wm_dic {gs : List (Md D × Md D)} {ρ : Env} {Q : D → Env → Prop} : Wm (gDic gs) ρ Q ↔ Wm (gKV gs) ρ fun es ρ1 => keysOk es = true ∧ Q (PyData.dict es) ρ1 := by
  show Wo ((gKV gs ρ).bind fun p => if keysOk p.1 = true then some (PyData.dict p.1, p.2) else none) _ ↔ _
  unfold Wm
  rw [wo_bind]
  refine Iff.of_eq (congrArg _ (funext fun p => ?_))
  by_cases h : keysOk p.1 = true
  · simp only [h, ↓reduceIte, wo_some, true_and]
  · simp only [h, ↓reduceIte, wo_none, false_and, Bool.false_eq_true]
theorem wm_kvn {ρ : Env} {Q : List (D × D) → Env → Prop} : Wm (gKV []) ρ Q ↔ Q [] ρ := wo_some
theorem wm_kvc {gk gv : Md D} {r : List (Md D × Md D)} {ρ : Env} {Q : List (D × D) → Env → Prop} : Wm (gKV ((gk, gv) :: r)) ρ Q ↔ Wm gk ρ fun k ρ1 => Wm gv ρ1 fun v ρ2 => Wm (gKV r) ρ2 fun es ρ3 => Q ((k, v) :: es) ρ3 := by
  show Wo ((gk ρ).bind fun p => (gv p.2).bind fun q => (gKV r q.2).bind fun z => some ((p.1, q.1) :: z.1, z.2)) _ ↔ _
  unfold Wm
  simp only [wo_bind, wo_some]
theorem seq_s : seqOf (.str a) = some (signsL a) := rfl
theorem mulT_si : mulT (.str a) (.int i) = if 0 ≤ i ∧ i ≤ 1000 ∧ a.length ≤ 1000 then some (.str (Txt.mul a i)) else none := rfl
theorem len_s : lenF [.str a] = if a.length ≤ 16777216 then some (.int a.length) else none := rfl
theorem ord_c {c : Nat} : ordF [.str ⟨#[c]⟩] = some (.int c) := rfl
theorem str_i : strF [.int i] = if i.natAbs.log2 < 1920 then some (.str (toString i)) else none := rfl
theorem k_lb : L2.kitB "list" "bool" = some false := by decide +kernel
theorem k_li : L2.kitB "list" "int" = some false := by decide +kernel
theorem k_ls : L2.kitB "list" "str" = some false := by decide +kernel
theorem k_tb : L2.kitB "tuple" "bool" = some false := by decide +kernel
theorem k_ti : L2.kitB "tuple" "int" = some false := by decide +kernel
theorem k_ts : L2.kitB "tuple" "str" = some false := by decide +kernel
theorem k_db : L2.kitB "dict" "bool" = some false := by decide +kernel
theorem k_di : L2.kitB "dict" "int" = some false := by decide +kernel
theorem k_ds : L2.kitB "dict" "str" = some false := by decide +kernel
theorem k_lt : L2.kitB "list" "tuple" = some false := by decide +kernel
theorem k_tl : L2.kitB "tuple" "list" = some false := by decide +kernel
theorem ty_d {es : List (D × D)} : tyD (.dict es) = "dict" := rfl
theorem wm_reve {a : Md D} {ρ : Env} {Q : List D → Env → Prop} : Wm (gReve a) ρ Q ↔ Wm a ρ fun x ρ1 => Wo (revOf x) fun ds => Q ds ρ1 := by
  show Wo ((a ρ).bind fun p => (revOf p.1).bind fun ds => some (ds, p.2)) _ ↔ _
  unfold Wm
  simp only [wo_bind, wo_some]
theorem rev_l : revOf (.list xs) = some xs.reverse := rfl
theorem rev_t : revOf (.tuple xs) = some xs.reverse := rfl
theorem wm_opBL {f : D → D → Option D} {i : Nat} {g : Md D} {ρ : Env} {Q : D → Env → Prop} : Wm (gOpBL f i g) ρ Q ↔ Wo (peekOf ρ[i]?) fun _ => Wm g ρ fun x ρ1 => Wo (peekOf ρ1[i]?) fun d => Wo (f d x) fun r => flatD r = true ∧ Q r ρ1 := by
  have e : ∀ ρ : Env, peek ρ i = peekOf ρ[i]? := fun ρ => rfl
  show Wo ((peek ρ i).bind fun _ => (g ρ).bind fun p => (peek p.2 i).bind fun d => (f d p.1).bind fun r => if flatD r = true then some (r, p.2) else none) _ ↔ _
  unfold Wm
  simp only [wo_bind, e]
  refine Iff.of_eq (congrArg _ (funext fun _ => congrArg _ (funext fun p => congrArg _ (funext fun d => congrArg _ (funext fun r => ?_)))))
  by_cases h : flatD r = true
  · simp only [h, ↓reduceIte, wo_some, true_and]
  · simp only [h, ↓reduceIte, wo_none, false_and, Bool.false_eq_true]
theorem repr_l : reprF [.list xs] = if reprOk (.list xs) = true then some (.str (PyData.list xs).shown) else none := rfl
theorem sort_l : sortF [.list xs] = if DnSo.sortOk xs = true then some (.list (xs.mergeSort DnSo.leD3)) else none := rfl
theorem sum_l : sumF [.list xs] = (numsOf xs).bind fun ns => some (.int ns.sum) := rfl
/-- those that pass a test -/
theorem lc_filterA {α : Type} {vs : List Nat} {tg : D → Env → Option Env} {tt : Md Bool} {te : Md D} (h f : α → D) (p : α → Bool) {ρ : Env} {Q : List D × Env → Prop} : ∀ (xs : List α), (∀ x ∈ xs, Wo (tg (h x) ρ) fun ρ1 => Wm tt ρ1 fun b ρ2 => b = p x ∧ (b = true → Wm te ρ2 fun y ρ3 => y = f x ∧ wipeE ρ3 vs = ρ) ∧ (b = false → wipeE ρ2 vs = ρ)) → Q ((xs.filter p).map f, ρ) → Wo (lcD vs tg tt te (xs.map h) ρ) Q
  | [], _, q => lc_nil.mpr q
  | d :: ds, hs, q => by
    rw [List.map_cons, lc_cons]
    refine wo_mono (hs d List.mem_cons_self) fun ρ1 h1 => ?_
    refine wo_mono h1 fun b h2 => ?_
    obtain ⟨h3, h4, h5⟩ := h2
    rw [List.filter_cons] at q
    rw [← h3] at q
    cases hb : b.1 with
    | true =>
      rw [hb] at q
      rw [if_pos rfl] at q ⊢
      refine wo_mono (h4 hb) fun y h6 => ?_
      dsimp only at h6 ⊢
      rw [h6.2]
      refine lc_filterA h f p (Q := fun r => Q (y.1 :: r.1, r.2)) ds (fun d' hd => hs d' (List.mem_cons_of_mem _ hd)) ?_
      rw [h6.1]
      exact q
    | false =>
      rw [hb] at q
      rw [if_neg (by decide)] at q ⊢
      rw [h5 hb]
      exact lc_filterA h f p ds (fun d' hd => hs d' (List.mem_cons_of_mem _ hd)) q
end
end Dm
set_option maxHeartbeats 2000000
namespace Dm
open PySem Dn DnSo
def dOwn : Option (Option Cell) → Option (Bool × List (D × D))
  | some (some (.own b (.dict es))) => some (b, es)
  | _ => none
def lOwn : Option (Option Cell) → Option (Bool × List D)
  | some (some (.own b (.list ds))) => some (b, ds)
  | _ => none
section
variable {ρ : Env} {Q : D → Env → Prop} {R : Fl → Env → Prop} {i : Nat}
theorem dOwn_own {b : Bool} {es : List (D × D)} : dOwn (some (some (.own b (.dict es)))) = some (b, es) := rfl
theorem lOwn_own {b : Bool} {ds : List D} : lOwn (some (some (.own b (.list ds)))) = some (b, ds) := rfl
theorem dic_cases (o : Option (Option Cell)) : (∃ b es, o = some (some (.own b (.dict es)))) ∨ (dOwn o = none ∧ ∀ b es, o ≠ some (some (.own b (.dict es)))) := by
  rcases o with _ | _ | d | ⟨b, d⟩
  · exact .inr ⟨rfl, fun _ _ h => by cases h⟩
  · exact .inr ⟨rfl, fun _ _ h => by cases h⟩
  · exact .inr ⟨rfl, fun _ _ h => by cases h⟩
  · cases d with
    | dict es => exact .inl ⟨b, es, rfl⟩
    | _ => exact .inr ⟨rfl, fun _ _ h => by cases h⟩
theorem lst_cases (o : Option (Option Cell)) : (∃ b ds, o = some (some (.own b (.list ds)))) ∨ (lOwn o = none ∧ ∀ b ds, o ≠ some (some (.own b (.list ds)))) := by
  rcases o with _ | _ | d | ⟨b, d⟩
  · exact .inr ⟨rfl, fun _ _ h => by cases h⟩
  · exact .inr ⟨rfl, fun _ _ h => by cases h⟩
  · exact .inr ⟨rfl, fun _ _ h => by cases h⟩
  · cases d with
    | list ds => exact .inl ⟨b, ds, rfl⟩
    | _ => exact .inr ⟨rfl, fun _ _ h => by cases h⟩
theorem own_cases (o : Option (Option Cell)) : (∃ b d, o = some (some (.own b d))) ∨ (cOwn o = none ∧ ∀ b d, o ≠ some (some (.own b d))) := by
  rcases o with _ | _ | d | ⟨b, d⟩
  · exact .inr ⟨rfl, fun _ _ h => by cases h⟩
  · exact .inr ⟨rfl, fun _ _ h => by cases h⟩
  · exact .inr ⟨rfl, fun _ _ h => by cases h⟩
  · exact .inl ⟨b, d, rfl⟩
def putO (es : List (D × D)) (k v : D) : Option (List (D × D)) := if keyTup k = true ∧ (nkD k).isSome = true ∧ es.length < 16777216 then some (putD es k v) else none
def atO (es : List (D × D)) (k : D) : Option D := if keyTup k = true ∧ (nkD k).isSome = true then atD es k else none
def getO (es : List (D × D)) (k x : D) : Option D := if keyTup k = true ∧ (nkD k).isSome = true then some ((atD es k).getD x) else none
def srtO (es : List (D × D)) : Option D := if sortOk (es.map (·.1)) = true then some (.list ((es.map (·.1)).mergeSort leD3)) else none
theorem wm_newD : Wm gNewD ρ Q ↔ Q (.dict []) ρ := wo_some
theorem ws_setK {gv gk : Md D} : Ws (sSetK i gv gk) ρ R ↔ Wm gv ρ fun v ρ1 => Wo (cOwn ρ1[i]?) fun _ => Wm gk ρ1 fun k ρ2 => Wo (dOwn ρ2[i]?) fun c => Wo (putO c.2 k v) fun es => R .nx (ρ2.set i (some (.own c.1 (.dict es)))) := by
  unfold Ws Wm sSetK
  rw [wo_bind]
  refine Iff.of_eq (congrArg _ (funext fun p => ?_))
  try dsimp only
  rcases own_cases p.2[i]? with ⟨b, d, h⟩ | ⟨h, hn⟩
  · split
    · rw [h, cOwn_own, wo_some, wo_bind]
      refine congrArg _ (funext fun q => ?_)
      try dsimp only
      rcases dic_cases q.2[i]? with ⟨b, es, h2⟩ | ⟨h2, hn⟩
      · split
        · rename_i e
          rw [h2] at e
          cases e
          rw [h2, dOwn_own, wo_some]
          unfold putO
          simp only [wo_ite, wo_some, wo_none]
        · rename_i e
          exact absurd h2 (e _ _)
      · split
        · rename_i e
          exact absurd e (hn _ _)
        · rw [h2, wo_none, wo_none]
    · rename_i e
      exact absurd h (e _ _)
  · split
    · rename_i e
      exact absurd e (hn _ _)
    · rw [h, wo_none, wo_none]
theorem wm_get {gk gx : Md D} : Wm (gGet i gk gx) ρ Q ↔ Wo (dOwn ρ[i]?) fun _ => Wm gk ρ fun k ρ1 => Wm gx ρ1 fun x ρ2 => Wo (dOwn ρ2[i]?) fun c => Wo (getO c.2 k x) fun r => Q r ρ2 := by
  unfold Wm gGet
  rcases dic_cases ρ[i]? with ⟨b, es, h⟩ | ⟨h, hn⟩
  · split
    · rw [h, dOwn_own, wo_some, wo_bind]
      refine Iff.of_eq (congrArg _ (funext fun p => ?_))
      try dsimp only
      rw [wo_bind]
      refine congrArg _ (funext fun q => ?_)
      try dsimp only
      rcases dic_cases q.2[i]? with ⟨b, es, h2⟩ | ⟨h2, hn⟩
      · split
        · rename_i e
          rw [h2] at e
          cases e
          rw [h2, dOwn_own, wo_some]
          unfold getO
          simp only [wo_ite, wo_some, wo_none]
        · rename_i e
          exact absurd h2 (e _ _)
      · split
        · rename_i e
          exact absurd e (hn _ _)
        · rw [h2, wo_none, wo_none]
    · rename_i e
      exact absurd h (e _ _)
  · split
    · rename_i e
      exact absurd e (hn _ _)
    · rw [h, wo_none, wo_none]
theorem wm_ixK {gk : Md D} : Wm (gIxK i gk) ρ Q ↔ Wo (dOwn ρ[i]?) fun _ => Wm gk ρ fun k ρ1 => Wo (dOwn ρ1[i]?) fun c => Wo (atO c.2 k) fun r => Q r ρ1 := by
  unfold Wm gIxK
  rcases dic_cases ρ[i]? with ⟨b, es, h⟩ | ⟨h, hn⟩
  · split
    · rw [h, dOwn_own, wo_some, wo_bind]
      refine Iff.of_eq (congrArg _ (funext fun q => ?_))
      try dsimp only
      rcases dic_cases q.2[i]? with ⟨b, es, h2⟩ | ⟨h2, hn⟩
      · split
        · rename_i e
          rw [h2] at e
          cases e
          rw [h2, dOwn_own, wo_some]
          unfold atO
          simp only [wo_ite, wo_bind, wo_some, wo_none]
        · rename_i e
          exact absurd h2 (e _ _)
      · split
        · rename_i e
          exact absurd e (hn _ _)
        · rw [h2, wo_none, wo_none]
    · rename_i e
      exact absurd h (e _ _)
  · split
    · rename_i e
      exact absurd e (hn _ _)
    · rw [h, wo_none, wo_none]
theorem wm_sortN : Wm (gSortN i) ρ Q ↔ Wo (dOwn ρ[i]?) fun c => Wo (srtO c.2) fun r => Q r ρ := by
  unfold Wm gSortN
  rcases dic_cases ρ[i]? with ⟨b, es, h⟩ | ⟨h, hn⟩
  · split
    · rename_i e
      rw [h] at e
      cases e
      rw [h, dOwn_own, wo_some]
      unfold srtO
      simp only [wo_ite, wo_some, wo_none]
    · rename_i e
      exact absurd h (e _ _)
  · split
    · rename_i e
      exact absurd e (hn _ _)
    · rw [h, wo_none, wo_none]
theorem ws_ext {g : Md D} : Ws (sExt i g) ρ R ↔ Wo (lOwn ρ[i]?) fun _ => Wm g ρ fun d ρ1 => Wo (lOwn ρ1[i]?) fun c => Wo (lsD d) fun es => c.2.length + es.length ≤ 16777216 ∧ R .nx (ρ1.set i (some (.own c.1 (.list (c.2 ++ es))))) := by
  unfold Ws Wm sExt
  rcases lst_cases ρ[i]? with ⟨b, es, h⟩ | ⟨h, hn⟩
  · split
    · rw [h, lOwn_own, wo_some, wo_bind]
      refine Iff.of_eq (congrArg _ (funext fun q => ?_))
      try dsimp only
      rcases lst_cases q.2[i]? with ⟨b, es, h2⟩ | ⟨h2, hn⟩
      · split
        · rename_i e
          rw [h2] at e
          cases e
          rw [h2, lOwn_own, wo_some, wo_bind]
          refine congrArg _ (funext fun fs => ?_)
          try dsimp only
          rw [wo_ite, wo_some, wo_none]
          by_cases z : es.length + fs.length ≤ 16777216
          · rw [if_pos z]
            simp [z]
          · rw [if_neg z]
            simp [z]
        · rename_i e
          exact absurd h2 (e _ _)
      · split
        · rename_i e
          exact absurd e (hn _ _)
        · rw [h2, wo_none, wo_none]
    · rename_i e
      exact absurd h (e _ _)
  · split
    · rename_i e
      exact absurd e (hn _ _)
    · rw [h, wo_none, wo_none]
/-- a loop over items drawn by h: what holds ahead of each, what is asked of a turn -/
def stepQ (I : Env → Prop) (R : Fl → Env → Prop) : Fl → Env → Prop
  | .nx, ρ => I ρ
  | .cnt, ρ => I ρ
  | .brk, ρ => R .nx ρ
  | .ret d, ρ => R (.ret d) ρ
  | .rof d, ρ => R (.rof d) ρ
theorem step_nx {I : Env → Prop} : stepQ I R .nx ρ ↔ I ρ := Iff.rfl
theorem step_cnt {I : Env → Prop} : stepQ I R .cnt ρ ↔ I ρ := Iff.rfl
theorem step_brk {I : Env → Prop} : stepQ I R .brk ρ ↔ R .nx ρ := Iff.rfl
theorem step_ret {I : Env → Prop} {d : D} : stepQ I R (.ret d) ρ ↔ R (.ret d) ρ := Iff.rfl
theorem step_rof {I : Env → Prop} {d : D} : stepQ I R (.rof d) ρ ↔ R (.rof d) ρ := Iff.rfl
theorem for_go {α : Type} (h : α → D) {tg : D → Env → Option Env} {b : Sd} (I : List α → Env → Prop) : ∀ (xs p : List α) (ρ : Env), I p ρ →
    (∀ (q : List α) (x : α) (r : List α) (ρ : Env), p ++ xs = q ++ x :: r → I q ρ → Wo (tg (h x) ρ) fun ρ1 => Ws b ρ1 (stepQ (I (q ++ [x])) R)) →
    (∀ ρ', I (p ++ xs) ρ' → R .nx ρ') → Ws (forD tg b (xs.map h)) ρ R
  | [], p, ρ, h0, _, fin => for_nil.mpr (fin ρ (by rw [List.append_nil]; exact h0))
  | x :: xs, p, ρ, h0, st, fin => by
    rw [List.map_cons, for_cons]
    refine wo_mono (st p x xs ρ rfl h0) fun ρ1 h1 => ws_mono h1 fun f ρ2 h2 => ?_
    have go : I (p ++ [x]) ρ2 → Ws (forD tg b (xs.map h)) ρ2 R := fun h3 => for_go h I xs (p ++ [x]) ρ2 h3 (fun q y r ρ' e => st q y r ρ' (by rw [← e]; simp)) fun ρ' h4 => fin ρ' (by simpa using h4)
    cases f with
    | nx => exact go h2
    | cnt => exact go h2
    | brk => exact h2
    | ret d => exact h2
    | rof d => exact h2
theorem ws_forA {α : Type} (h : α → D) {xs : List α} {tg : D → Env → Option Env} {b : Sd} (I : List α → Env → Prop) (h0 : I [] ρ)
    (st : ∀ (q : List α) (x : α) (r : List α) (ρ : Env), xs = q ++ x :: r → I q ρ → Wo (tg (h x) ρ) fun ρ1 => Ws b ρ1 (stepQ (I (q ++ [x])) R))
    (fin : ∀ ρ', I xs ρ' → R .nx ρ') : Ws (forD tg b (xs.map h)) ρ R := for_go h I xs [] ρ h0 st fin
theorem rng_map (n : Nat) : rngL 0 n = (List.range n).map fun i : Nat => PyData.int i := by
  unfold rngL
  exact List.map_congr_left fun i _ => by rw [Int.zero_add]
theorem rng_split {n i : Nat} {p r : List Nat} (e : List.range n = p ++ i :: r) : p.length = i ∧ i < n := by
  have hl := congrArg List.length e
  rw [List.length_range, List.length_append, List.length_cons] at hl
  have h1 : (List.range n)[p.length]? = some i := by rw [e]; simp
  rw [List.getElem?_range (by omega)] at h1
  have := Option.some.inj h1
  omega
theorem lsD_list {ds : List D} : lsD (.list ds) = some ds := rfl
end
end Dm
set_option maxHeartbeats 2000000
namespace Dm
open PySem Dn DnSo
section
variable {ρ : Env} {Q : D → Env → Prop} {R : Fl → Env → Prop} {i : Nat}
theorem empty_own : emptyOwn (some (some (.own false (.dict [])))) = true := rfl
theorem ws_grp {p : Nat} {gi : Md (List D)} {gt : D → Env → Option Env} {g0 gk gx : Md D} : Ws (sGrp i gi gt p g0 gk gx) ρ R ↔ Wm gi ρ fun ds ρ1 => emptyOwn ρ1[i]? = true ∧ Wo (grpD gt p g0 gk gx ds [] (ρ1.set i none)) fun r => Wo (canSet r.2[i]?) fun _ => R .nx (r.2.set i (some (.val (.dict r.1)))) := by
  unfold Ws Wm sGrp
  rw [wo_bind]
  refine Iff.of_eq (congrArg _ (funext fun q => ?_))
  try dsimp only
  by_cases h : emptyOwn q.2[i]? = true
  · rw [if_pos h]
    simp only [wo_bind, wo_some, setC_eq, h, true_and]
  · rw [if_neg h, wo_none]
    simp [h]
theorem wm_getD {go gk gx : Md D} : Wm (gGetD go gk gx) ρ Q ↔ Wm go ρ fun o ρ1 => Wm gk ρ1 fun k ρ2 => Wm gx ρ2 fun x ρ3 => Wo (getG o k x) fun r => Q r ρ3 := by
  unfold Wm gGetD
  simp only [wo_bind, wo_some]
theorem wm_ind {go gx : Md D} : Wm (gInd go gx) ρ Q ↔ Wm go ρ fun o ρ1 => Wm gx ρ1 fun x ρ2 => Wo (indF o x) fun r => Q r ρ2 := by
  unfold Wm gInd
  simp only [wo_bind, wo_some]
end
theorem add2_ll {xs ys : List D} : addL2 (.list xs) (.list ys) = if xs.length + ys.length ≤ 16777216 then some (.list (xs ++ ys)) else none := rfl
theorem three_c {a b c : D} : three [a, b, c] = some (a, b, c) := rfl
theorem ws_par3 {ρ : Env} {R : Fl → Env → Prop} {i j l : Nat} {gs : Md (List D)} : Ws (sPar3 i j l gs) ρ R ↔ Wm gs ρ fun ds ρ0 => Wo (three ds) fun t => Wo (canSet ρ0[i]?) fun _ => Wo (canSet (ρ0.set i (some (.val t.1)))[j]?) fun _ => Wo (canSet ((ρ0.set i (some (.val t.1))).set j (some (.val t.2.1)))[l]?) fun _ => R .nx (((ρ0.set i (some (.val t.1))).set j (some (.val t.2.1))).set l (some (.val t.2.2))) := by
  unfold Ws Wm sPar3
  simp only [wo_bind, wo_some, setC_eq]
theorem lOwnD_own {b : Bool} {ds : List D} : lOwnD (some (some (.own b (.list ds)))) = some ds := rfl
theorem wm_lcW {ρ : Env} {Q : D → Env → Prop} {i0 : Nat} {vs : List Nat} {gt : D → Env → Option Env} {gc : Md Bool} {ge : Md D} : Wm (gLcW i0 vs gt gc ge) ρ Q ↔ Wo (lOwnD ρ[i0]?) fun ds => (ds.length ≤ 16777216 ∧ vs.all (notOwn ρ) = true ∧ i0 ∉ vs) ∧ Wo (lcW i0 vs gt gc ge ds.length 0 (wipeE ρ vs)) fun r => Q (.list r.1) (backE ρ vs r.2) := by
  unfold Wm gLcW
  rw [wo_bind]
  refine Iff.of_eq (congrArg _ (funext fun ds => ?_))
  by_cases h : ds.length ≤ 16777216 ∧ vs.all (notOwn ρ) = true ∧ i0 ∉ vs
  · rw [if_pos h, wo_bind]
    simp only [wo_some, h, true_and]
    simp
  · rw [if_neg h, wo_none]
    simp only [h, false_and]
theorem ix3 {a b c d : D} {r : List D} : ixA (a :: b :: c :: d :: r) 3 = some d := rfl
theorem ix4 {a b c d e : D} {r : List D} : ixA (a :: b :: c :: d :: e :: r) 4 = some e := rfl
theorem ix_m2 (a b c : D) : ixA [a, b, c] (-2) = some b := rfl
theorem ix_m1 (a b c : D) : ixA [a, b, c] (-1) = some c := rfl
theorem ix_p2 (a b : D) : ixA [a, b] (-2) = some a := rfl
theorem ix_p1 (a b : D) : ixA [a, b] (-1) = some b := rfl
end Dm
set_option maxHeartbeats 4000000
namespace Lw
open PySem Dn Dm
theorem wo_ix {xs : List D} {i : Int} {Q : D → Prop} (h0 : 0 ≤ i) (h1 : i < xs.length) (q : ∀ x ∈ xs, Q x) : Wo (ixA xs i) Q := by
  unfold ixA
  rw [if_pos h0]
  have hl : i.toNat < xs.length := by omega
  rw [List.getElem?_eq_getElem hl, wo_some]
  exact q _ (List.getElem_mem hl)
/-- a value -/
def gv (d : D) : Prop := flatD d = true ∧ SeqAt.shaped d = true
theorem gv_none : gv .none := ⟨rfl, by decide⟩
theorem gv_bool (b : Bool) : gv (.bool b) := ⟨rfl, by cases b <;> decide⟩
theorem gv_int (i : Int) : gv (.int i) := ⟨rfl, by simp [SeqAt.shaped, PyData.canLay0, PyData.depth]⟩
theorem log_ok {i j : Int} (a b : Nat) (ha : i.natAbs < 2 ^ a) (hb : j.natAbs < 2 ^ b) (h : a + b + 2 ≤ 1000000) : i.natAbs.log2 + j.natAbs.log2 < 1000000 := by
  have l : ∀ (n k : Nat), n < 2 ^ k → n.log2 ≤ k := fun n k h => by
    by_cases z : n = 0
    · subst z; simp
    · exact Nat.le_of_lt ((Nat.log2_lt z).mpr h)
  have h1 := l _ _ ha
  have h2 := l _ _ hb
  omega
theorem nab {m : Int} {b : Nat} (h0 : 0 ≤ m) (h : m < 2 ^ b) : m.natAbs < 2 ^ b := by
  have h2 : ((m.natAbs : Nat) : Int) = m := Int.natAbs_of_nonneg h0
  have h3 : ((m.natAbs : Nat) : Int) < ((2 ^ b : Nat) : Int) := by
    rw [h2]
    push_cast
    exact h
  exact Int.ofNat_lt.mp h3
def rk : D → Int
  | .none => 0
  | .bool b => 1 + (if b then 1 else 0)
  | .int _ => 3
  | _ => 4
def ltV (a b : D) : Bool := if rk a ≠ rk b then decide (rk a < rk b) else match a, b with
  | .int i, .int j => decide (i < j)
  | .str x, .str y => decide (x.cps.toList < y.cps.toList)
  | _, _ => false
def vo : D → D
  | .none => .tuple [.int 0, .int 0]
  | .bool b => .tuple [.int 1, .int (if b then 1 else 0)]
  | .int i => .tuple [.int 2, .int i]
  | d => .tuple [.int 3, d]
theorem gv_cases {d : D} (h : gv d) : d = .none ∨ (∃ b, d = .bool b) ∨ (∃ i, d = .int i) ∨ ∃ s, d = .str s := by
  cases d with
  | none => exact .inl rfl
  | bool b => exact .inr (.inl ⟨b, rfl⟩)
  | int i => exact .inr (.inr (.inl ⟨i, rfl⟩))
  | str s => exact .inr (.inr (.inr ⟨s, rfl⟩))
  | list _ => cases h.1
  | tuple _ => cases h.1
  | dict _ => cases h.1
theorem ltV_irr {a : D} (ha : gv a) : ltV a a = false := by
  unfold ltV
  rcases gv_cases ha with rfl | ⟨p, rfl⟩ | ⟨i, rfl⟩ | ⟨s, rfl⟩ <;> simp
theorem gv5 {d : D} (h : gv d) : d = .none ∨ d = .bool true ∨ d = .bool false ∨ (∃ i, d = .int i) ∨ ∃ s, d = .str s := by
  rcases gv_cases h with rfl | ⟨b, rfl⟩ | h | h
  · exact .inl rfl
  · cases b
    · exact .inr (.inr (.inl rfl))
    · exact .inr (.inl rfl)
  · exact .inr (.inr (.inr (.inl h)))
  · exact .inr (.inr (.inr (.inr h)))
theorem str_tri (s t : Str) : (s == t) = (!decide (s.cps.toList < t.cps.toList) && !decide (t.cps.toList < s.cps.toList)) := by
  by_cases h : s = t
  · subst h
    have : ¬ (s.cps.toList < s.cps.toList) := List.lt_irrefl _
    simp only [beq_self_eq_true, this, decide_false, Bool.not_false, Bool.and_self]
  · have h1 : (s == t) = false := by simpa using h
    rw [h1]
    by_cases h2 : s.cps.toList < t.cps.toList
    · simp only [h2, decide_true, Bool.not_true, Bool.false_and]
    · by_cases h3 : t.cps.toList < s.cps.toList
      · simp only [h3, decide_true, Bool.not_true, Bool.and_false]
      · exact absurd (PySem.W.str_of_cps (List.le_antisymm (List.not_lt.mp h3) (List.not_lt.mp h2))) h
/-- the same -/
theorem eqv_vo {a b : D} (ha : gv a) (hb : gv b) : PyData.eqv (vo a) (vo b) = (!ltV a b && !ltV b a) := by
  rcases gv5 ha with rfl | rfl | rfl | ⟨i, rfl⟩ | ⟨s, rfl⟩ <;> rcases gv5 hb with rfl | rfl | rfl | ⟨j, rfl⟩ | ⟨t, rfl⟩ <;> simp only [vo, PyData.eqv, PyData.eqvAll, ltV, rk] <;> first | rfl | skip
  · simp only [ne_eq, not_true_eq_false, ↓reduceIte, Bool.and_true, beq_self_eq_true, Bool.true_and]
    rw [Bool.eq_iff_iff]
    simp
    omega
  · simp only [ne_eq, not_true_eq_false, ↓reduceIte, Bool.and_true, beq_self_eq_true, Bool.true_and]
    exact str_tri s t
theorem ltB_vo {a b : D} (ha : gv a) (hb : gv b) (h : PyData.eqv (vo a) (vo b) = false) : DnLt.ltB (vo a) (vo b) = some (ltV a b) := by
  rcases gv5 ha with rfl | rfl | rfl | ⟨i, rfl⟩ | ⟨s, rfl⟩ <;> rcases gv5 hb with rfl | rfl | rfl | ⟨j, rfl⟩ | ⟨t, rfl⟩ <;> simp only [vo, PyData.eqv, PyData.eqvAll, ltV, rk, DnLt.ltB, DnLt.ltA] at h ⊢ <;> first | rfl | (exact absurd h (by decide)) | skip
  · simp only [beq_self_eq_true, ↓reduceIte, ne_eq, not_true_eq_false, Bool.and_true, Bool.true_and] at h ⊢
    exact if_neg (by rw [h]; decide)
  · simp only [beq_self_eq_true, ↓reduceIte, ne_eq, not_true_eq_false, Bool.and_true, Bool.true_and] at h ⊢
    exact if_neg (by rw [h]; decide)
/-- rows -/
def ltR : List D → List D → Bool
  | [], [] => false
  | [], _ :: _ => true
  | _ :: _, [] => false
  | x :: xs, y :: ys => if ltV x y = true then true else if ltV y x = true then false else ltR xs ys
theorem ltA_vo : ∀ {xs ys : List D}, (∀ v ∈ xs, gv v) → (∀ v ∈ ys, gv v) → DnLt.ltA (xs.map vo) (ys.map vo) = some (ltR xs ys)
  | [], [], _, _ => rfl
  | [], _ :: _, _, _ => rfl
  | _ :: _, [], _, _ => rfl
  | x :: xs, y :: ys, hx, hy => by
    have gx := hx x List.mem_cons_self
    have gy := hy y List.mem_cons_self
    have ih := ltA_vo (xs := xs) (ys := ys) (fun v hv => hx v (List.mem_cons_of_mem _ hv)) fun v hv => hy v (List.mem_cons_of_mem _ hv)
    rw [List.map_cons, List.map_cons, DnLt.ltA, ltR, ih]
    have e := eqv_vo gx gy
    cases h : PyData.eqv (vo x) (vo y) with
    | true =>
      rw [h] at e
      have e2 : ltV x y = false ∧ ltV y x = false := by simpa using e.symm
      simp [e2.1, e2.2]
    | false =>
      rw [h] at e
      rw [if_neg (by decide), ltB_vo gx gy h]
      cases h1 : ltV x y with
      | true => simp
      | false =>
        rw [h1] at e
        have e2 : ltV y x = true := by simpa using e.symm
        simp [e2]
theorem eqvAll_vo : ∀ {xs ys : List D}, (∀ v ∈ xs, gv v) → (∀ v ∈ ys, gv v) → PyData.eqvAll (xs.map vo) (ys.map vo) = (!ltR xs ys && !ltR ys xs)
  | [], [], _, _ => by simp [PyData.eqvAll, ltR]
  | [], _ :: _, _, _ => by simp [PyData.eqvAll, ltR]
  | _ :: _, [], _, _ => by simp [PyData.eqvAll, ltR]
  | x :: xs, y :: ys, hx, hy => by
    have gx := hx x List.mem_cons_self
    have gy := hy y List.mem_cons_self
    have ih := eqvAll_vo (xs := xs) (ys := ys) (fun v hv => hx v (List.mem_cons_of_mem _ hv)) fun v hv => hy v (List.mem_cons_of_mem _ hv)
    have e := eqv_vo gx gy
    rw [List.map_cons, List.map_cons, PyData.eqvAll, ltR, ltR, ih, e]
    cases h1 : ltV x y <;> cases h2 : ltV y x <;> simp
theorem shaped_vo {a : D} (h : gv a) : SeqAt.shaped (vo a) = true := by
  rcases gv_cases h with rfl | ⟨b, rfl⟩ | ⟨i, rfl⟩ | ⟨s, rfl⟩
  · simp [vo, SeqAt.shaped, PyData.canLay0, PyData.canLayAll0, PyData.depth, PyData.depthAll]
  · simp [vo, SeqAt.shaped, PyData.canLay0, PyData.canLayAll0, PyData.depth, PyData.depthAll]
  · simp [vo, SeqAt.shaped, PyData.canLay0, PyData.canLayAll0, PyData.depth, PyData.depthAll]
  · have hs : (PyData.str s).canLay0 = true := SeqAt.canLay_of_shaped h.2
    simpa [vo, SeqAt.shaped, PyData.canLay0, PyData.canLayAll0, PyData.depth, PyData.depthAll] using hs
theorem vo_tup (a : D) : ∃ ds, vo a = .tuple ds := by cases a <;> exact ⟨_, rfl⟩
theorem eqT_tt {xs ys : List D} (h1 : SeqAt.shaped (.tuple xs) = true) (h2 : SeqAt.shaped (.tuple ys) = true) : eqT (.tuple xs) (.tuple ys) = some (PyData.eqv (.tuple xs) (.tuple ys)) := by
  show (if _ then _ else _) = _
  rw [if_pos ⟨h1, h2⟩]
theorem ltT_tt {xs ys : List D} (h1 : SeqAt.shaped (.tuple xs) = true) (h2 : SeqAt.shaped (.tuple ys) = true) : ltT (.tuple xs) (.tuple ys) = DnLt.ltB (.tuple xs) (.tuple ys) := by
  show (if _ then _ else _) = _
  rw [if_pos ⟨h1, h2⟩]
theorem eqT_vo {a b : D} (ha : gv a) (hb : gv b) : eqT (vo a) (vo b) = some (!ltV a b && !ltV b a) := by
  obtain ⟨xs, e1⟩ := vo_tup a
  obtain ⟨ys, e2⟩ := vo_tup b
  have h1 := shaped_vo ha
  have h2 := shaped_vo hb
  have h3 := eqv_vo ha hb
  rw [e1] at h1 h3 ⊢
  rw [e2] at h2 h3 ⊢
  rw [eqT_tt h1 h2, h3]
theorem ltA_eq : ∀ xs ys : List D, PyData.eqvAll xs ys = true → DnLt.ltA xs ys = some false
  | [], [], _ => rfl
  | [], _ :: _, h => by simp [PyData.eqvAll] at h
  | _ :: _, [], h => by simp [PyData.eqvAll] at h
  | x :: xs, y :: ys, h => by
    rw [PyData.eqvAll, Bool.and_eq_true] at h
    rw [DnLt.ltA, if_pos h.1]
    exact ltA_eq xs ys h.2
theorem ltT_vo {a b : D} (ha : gv a) (hb : gv b) : ltT (vo a) (vo b) = some (ltV a b) := by
  have h4 : DnLt.ltB (vo a) (vo b) = some (ltV a b) := by
    have h3 := eqv_vo ha hb
    cases h : PyData.eqv (vo a) (vo b) with
    | false => exact ltB_vo ha hb h
    | true =>
      rw [h] at h3
      have e2 : ltV a b = false ∧ ltV b a = false := by simpa using h3.symm
      rw [e2.1]
      obtain ⟨xs, e3⟩ := vo_tup a
      obtain ⟨ys, e4⟩ := vo_tup b
      rw [e3, e4] at h ⊢
      rw [PyData.eqv] at h
      rw [DnLt.ltB]
      exact ltA_eq xs ys h
  obtain ⟨xs, e1⟩ := vo_tup a
  obtain ⟨ys, e2⟩ := vo_tup b
  have h1 := shaped_vo ha
  have h2 := shaped_vo hb
  rw [e1] at h1 h4 ⊢
  rw [e2] at h2 h4 ⊢
  rw [ltT_tt h1 h2, h4]
theorem ixA_nat {α : Type} (xs : List α) (i : Nat) : ixA xs (i : Int) = xs[i]? := by
  unfold ixA
  rw [if_pos (Int.natCast_nonneg i)]
  rfl
theorem small_nat {n : Nat} (h : n ≤ 1000000000) : small62 (n : Int) = true := by
  unfold small62
  exact decide_eq_true ⟨by omega, by omega⟩
/-- a row of values -/
def gr (r : D) : Prop := ∃ xs, r = .tuple xs ∧ xs.length ≤ 1000 ∧ ∀ v ∈ xs, gv v
end Lw
set_option maxHeartbeats 4000000
namespace Lw
open PySem Dn Dm
/-- the three types -/
def kd (k : Str) : Prop := k = "flag" ∨ k = "whole" ∨ k = "text"
def tyB (k : Str) : D → Bool
  | .none => true
  | .bool _ => decide (k = "flag")
  | .int _ => decide (k = "whole")
  | .str _ => decide (k = "text")
  | _ => false
/-- a text that may stand in a value -/
def signOk (c : Nat) : Bool := decide ((32 ≤ c ∧ c ≤ 126) ∧ c ≠ 37)
def textB (s : Str) : Bool := decide (s.length ≤ 40) && s.cps.toList.all signOk
/-- a value of the document -/
def isV : D → Bool
  | .none => true
  | .bool _ => true
  | .int i => decide (-1000000000 ≤ i ∧ i ≤ 1000000000)
  | .str s => textB s
  | _ => false
theorem isV_int {i : Int} (h : -1000000000 ≤ i ∧ i ≤ 1000000000) : isV (.int i) = true := decide_eq_true h
/-- a field -/
def fdD (p : Str × Str) : D := .tuple [.str p.1, .str p.2]
theorem fdD_inj : ∀ {as bs : List (Str × Str)}, as.map fdD = bs.map fdD → as = bs
  | [], [], _ => rfl
  | [], _ :: _, h => (by cases h)
  | _ :: _, [], h => (by cases h)
  | (a, b) :: as, (c, d) :: bs, h => by
    rw [List.map_cons, List.map_cons] at h
    injection h with h1 h2
    simp only [fdD, PyData.tuple.injEq, List.cons.injEq, PyData.str.injEq, and_true] at h1
    rw [h1.1, h1.2, fdD_inj h2]
def fitsB : List D → List (Str × Str) → Bool
  | [], [] => true
  | v :: vs, p :: ps => tyB p.2 v && fitsB vs ps
  | _, _ => false
def colAt : Nat → List (Str × Str) → Str → D
  | _, [], _ => .none
  | i, p :: ps, x => if p.1 = x then .int i else colAt (i + 1) ps x
theorem fits_len : ∀ {vs : List D} {ps : List (Str × Str)}, fitsB vs ps = true → vs.length = ps.length
  | [], [], _ => rfl
  | _ :: vs, _ :: ps, h => congrArg (· + 1) (fits_len (Bool.and_eq_true_iff.mp h).2)
  | [], _ :: _, h => (by cases h)
  | _ :: _, [], h => (by cases h)
theorem fits_snoc : ∀ {vs : List D} {ps : List (Str × Str)} {v : D} {p : Str × Str}, fitsB vs ps = true → tyB p.2 v = true → fitsB (vs ++ [v]) (ps ++ [p]) = true
  | [], [], v, p, _, h => by simp [fitsB, h]
  | w :: vs, q :: ps, v, p, g, h => by
    have g' := Bool.and_eq_true_iff.mp g
    exact Bool.and_eq_true_iff.mpr ⟨g'.1, fits_snoc g'.2 h⟩
  | [], _ :: _, _, _, h, _ => (by cases h)
  | _ :: _, [], _, _, h, _ => (by cases h)
theorem fits_get : ∀ {vs : List D} {ps : List (Str × Str)} {i : Nat} {v : D} {p : Str × Str}, fitsB vs ps = true → vs[i]? = some v → ps[i]? = some p → tyB p.2 v = true
  | v :: vs, p :: ps, 0, _, _, h, e1, e2 => by
    cases e1
    cases e2
    exact (Bool.and_eq_true_iff.mp h).1
  | _ :: vs, _ :: ps, i + 1, _, _, h, e1, e2 => fits_get (i := i) (Bool.and_eq_true_iff.mp h).2 e1 e2
  | [], _, _, _, _, _, e1, _ => (by simp at e1)
  | _ :: _, [], _, _, _, _, _, e2 => (by simp at e2)
theorem cut_take {α : Type} (xs : List α) (i : Nat) : cutA xs none (some (i : Int)) = xs.take i := by
  unfold cutA
  rw [HT.sIx_none, HT.sIx_nat, List.drop_zero, Nat.sub_zero]
  rw [List.take_eq_take_iff]
  omega
theorem cut_drop {α : Type} (xs : List α) (i : Nat) : cutA xs (some (i : Int)) none = xs.drop i := by
  unfold cutA
  rw [HT.sIx_none, HT.sIx_nat]
  rw [List.take_of_length_le (by rw [List.length_drop]; omega)]
  by_cases h : i ≤ xs.length
  · rw [Nat.min_eq_left h]
  · rw [Nat.min_eq_right (by omega), List.drop_length, List.drop_eq_nil_of_le (by omega)]
/-- how often: min(M, max(1, l)) -/
theorem times {l m : Nat} {M : Int} (hM : M = m) (h1 : 1 ≤ m) : ∃ n : Nat, (if (if (l : Int) > 1 then (l : Int) else 1) < M then (if (l : Int) > 1 then (l : Int) else 1) else M) = (n : Int) ∧ n ≤ m := by
  subst hM
  by_cases h1 : (l : Int) > 1
  · by_cases h2 : (l : Int) < m
    · exact ⟨l, by simp only [h1, h2, ↓reduceIte], by omega⟩
    · exact ⟨m, by simp only [h1, h2, ↓reduceIte], by omega⟩
  · by_cases h2 : (1 : Int) < m
    · exact ⟨1, by simp only [h1, h2, ↓reduceIte]; rfl, by omega⟩
    · exact ⟨m, by simp only [h1, h2, ↓reduceIte], by omega⟩
/-- a remainder as a number of places -/
theorem modN (s : Int) {m : Int} (h : 0 < m) : ∃ k : Nat, s % m = (k : Int) ∧ (k : Int) < m := ⟨(s % m).toNat, by have := Int.emod_nonneg s (show m ≠ 0 by omega); omega, by have := Int.emod_nonneg s (show m ≠ 0 by omega); have := Int.emod_lt_of_pos s h; omega⟩
theorem kinds_ok {x : D} (h : x ∈ ([.str "flag", .str "whole", .str "text"] : List D)) : ∃ k, x = .str k ∧ kd k := by
  simp only [List.mem_cons, List.not_mem_nil, or_false] at h
  rcases h with rfl | rfl | rfl
  · exact ⟨_, rfl, .inl rfl⟩
  · exact ⟨_, rfl, .inr (.inl rfl)⟩
  · exact ⟨_, rfl, .inr (.inr rfl)⟩
theorem ltR_irr : ∀ {xs : List D}, (∀ v ∈ xs, gv v) → ltR xs xs = false
  | [], _ => rfl
  | x :: xs, h => by
    rw [ltR, ltV_irr (h x List.mem_cons_self), ltR_irr fun v hv => h v (List.mem_cons_of_mem _ hv)]
    rfl
theorem small_log {i j : Int} (hi : -1000000 ≤ i ∧ i ≤ 1000000) (hj : -1000000 ≤ j ∧ j ≤ 1000000) : i.natAbs.log2 + j.natAbs.log2 < 1000000 := log_ok 20 20 (by omega) (by omega) (by decide)
end Lw
set_option maxHeartbeats 4000000
namespace Lw
open PySem Dn Dm
mutual
/-- small leaves -/
def smD : D → Bool
  | .none => true
  | .bool _ => true
  | .int i => decide (i.natAbs < 1000000000000)
  | .str s => PyData.strOk s && decide (s.length ≤ 100) && s.cps.toList.all fun c => decide (c < 16 ^ 8)
  | .list xs => smL xs
  | .tuple xs => smL xs
  | .dict _ => false
def smL : List D → Bool
  | [] => true
  | x :: xs => smD x && smL xs
end
mutual
def nodes : D → Nat
  | .list xs => nodesL xs
  | .tuple xs => nodesL xs
  | _ => 1
def nodesL : List D → Nat
  | [] => 0
  | x :: xs => nodes x + 1 + nodesL xs
end
theorem int_log {i : Int} (h : i.natAbs < 1000000000000) : i.natAbs.log2 < 60 := by
  by_cases z : i.natAbs = 0
  · rw [z]; decide
  · exact (Nat.log2_lt z).mpr (by omega)
mutual
theorem sm_ok : ∀ d : D, smD d = true → d.canLay0 = true ∧ PyData.showable d = true ∧ PyData.leavesShort 13 d = true ∧ d.weight ≤ 101 * nodes d
  | .none, _ => ⟨rfl, rfl, rfl, by simp [PyData.weight, nodes]⟩
  | .bool _, _ => ⟨rfl, rfl, rfl, by simp [PyData.weight, nodes]⟩
  | .int i, h => by
    have h' : i.natAbs < 1000000000000 := by simpa [smD] using h
    have hl := int_log h'
    refine ⟨rfl, ?_, ?_, ?_⟩
    · simp only [PyData.showable, decide_eq_true_eq]
      omega
    · simp only [PyData.leavesShort, decide_eq_true_eq]
      exact PyData.shown_int_le (by omega)
    · simp only [PyData.weight, nodes]
      split <;> omega
  | .str s, h => by
    simp only [smD, Bool.and_eq_true, decide_eq_true_eq] at h
    refine ⟨?_, rfl, ?_, ?_⟩
    · simpa [PyData.canLay0] using h.1.1
    · simpa only [PyData.leavesShort] using h.2
    · have h1 : s.cps.size ≤ 100 := h.1.2
      simp only [PyData.weight, nodes]
      omega
  | .list xs, h => by
    obtain ⟨h1, h2, h3, h4⟩ := smL_ok xs (by simpa [smD] using h)
    exact ⟨by simpa [PyData.canLay0] using h1, by simpa [PyData.showable] using h2, by simpa [PyData.leavesShort] using h3, by simpa [PyData.weight, nodes] using h4⟩
  | .tuple xs, h => by
    obtain ⟨h1, h2, h3, h4⟩ := smL_ok xs (by simpa [smD] using h)
    exact ⟨by simpa [PyData.canLay0] using h1, by simpa [PyData.showable] using h2, by simpa [PyData.leavesShort] using h3, by simpa [PyData.weight, nodes] using h4⟩
  | .dict _, h => by simp [smD] at h
theorem smL_ok : ∀ ds : List D, smL ds = true → PyData.canLayAll0 ds = true ∧ PyData.showableAll ds = true ∧ PyData.leavesShortAll 13 ds = true ∧ PyData.weightAll ds ≤ 101 * nodesL ds
  | [], _ => ⟨rfl, rfl, rfl, by simp [PyData.weightAll]⟩
  | d :: ds, h => by
    simp only [smL, Bool.and_eq_true] at h
    obtain ⟨h1, h2, h3, h4⟩ := sm_ok d h.1
    obtain ⟨i1, i2, i3, i4⟩ := smL_ok ds h.2
    refine ⟨by simp [PyData.canLayAll0, h1, i1], by simp [PyData.showableAll, h2, i2], by simp [PyData.leavesShortAll, h3, i3], ?_⟩
    simp only [PyData.weightAll, nodesL]
    omega
end
theorem sm_of {d : D} (g : gv d) (h : isV d = true) : smD d = true := by
  rcases gv_cases g with rfl | ⟨b, rfl⟩ | ⟨i, rfl⟩ | ⟨s, rfl⟩
  · rfl
  · rfl
  · have := of_decide_eq_true h
    simp only [smD, decide_eq_true_eq]
    omega
  · have h1 := Bool.and_eq_true_iff.mp h
    have h2 : s.length ≤ 40 := of_decide_eq_true h1.1
    have h3 : PyData.strOk s = true := by simpa [PyData.canLay0] using SeqAt.canLay_of_shaped g.2
    simp only [smD, h3, Bool.true_and, Bool.and_eq_true, decide_eq_true_eq, List.all_eq_true]
    refine ⟨by omega, fun c hc => ?_⟩
    have h4 := (List.all_eq_true.mp h1.2) c hc
    have h5 := of_decide_eq_true h4
    have : (16 : Nat) ^ 8 = 4294967296 := by decide
    omega
open DnSo in
theorem ord_vo {d : D} (g : gv d) : ord0 (vo d) = true ∧ (vo d).canLay0 = true ∧ (vo d).depth ≤ 8 ∧ fst1 isI (vo d) = true := by
  have hs := SeqAt.canLay_of_shaped (shaped_vo g)
  rcases gv_cases g with rfl | ⟨b, rfl⟩ | ⟨i, rfl⟩ | ⟨s, rfl⟩ <;> exact ⟨rfl, hs, by simp [vo, PyData.depth, PyData.depthAll], rfl⟩
theorem ofString_inj {a b : String} (h : Str.ofString a = Str.ofString b) : a = b := by
  have h1 := congrArg (fun s : Str => s.cps.toList) h
  simp only [PyProof.Rows.signs_ofString] at h1
  have h2 : a.toList = b.toList := (List.map_inj_right (fun x y e => Char.toNat_inj.mp e)).mp h1
  exact String.toList_inj.mp h2
end Lw
set_option maxHeartbeats 4000000
namespace Lw
open PySem Dn Dm DnSo
/-- time and row; a move has a weight besides -/
abbrev Ky := Int × List D
abbrev Mv := Ky × Int
def kyD (k : Ky) : D := .tuple [.int k.1, .tuple (k.2.map vo)]
def okK (k : Ky) : Prop := (∀ v ∈ k.2, gv v) ∧ k.2.length ≤ 1000
def okL (ms : List Mv) : Prop := ∀ m ∈ ms, okK m.1
def eqK (a b : Ky) : Bool := decide (a.1 = b.1) && (!ltR a.2 b.2 && !ltR b.2 a.2)
def kLt (a b : Ky) : Bool := if a.1 = b.1 then ltR a.2 b.2 else decide (a.1 < b.1)
theorem vo_ord {xs : List D} (h : ∀ v ∈ xs, gv v) : ordL (xs.map vo) = true ∧ PyData.canLayAll0 (xs.map vo) = true ∧ PyData.depthAll (xs.map vo) ≤ 1 := by
  induction xs with
  | nil => exact ⟨rfl, rfl, by decide⟩
  | cons x xs ih =>
    obtain ⟨i1, i2, i3⟩ := ih fun v hv => h v (List.mem_cons_of_mem _ hv)
    obtain ⟨o1, o2, _, _⟩ := ord_vo (h x List.mem_cons_self)
    have o3 : (vo x).depth ≤ 1 := by
      rcases gv_cases (h x List.mem_cons_self) with rfl | ⟨b, rfl⟩ | ⟨i, rfl⟩ | ⟨s, rfl⟩ <;> simp [vo, PyData.depth, PyData.depthAll]
    refine ⟨?_, ?_, ?_⟩
    · rw [List.map_cons, ordL, o1, i1]; rfl
    · rw [List.map_cons, PyData.canLayAll0, o2, i2]; rfl
    · rw [List.map_cons, PyData.depthAll]; omega
theorem ky_ord {k : Ky} (h : okK k) : ord0 (kyD k) = true ∧ (kyD k).canLay0 = true ∧ (kyD k).depth ≤ 3 ∧ fst1 isI (kyD k) = true := by
  obtain ⟨o1, o2, o3⟩ := vo_ord h.1
  refine ⟨?_, ?_, ?_, rfl⟩
  · simp [kyD, ord0, ordL, o1]
  · simp [kyD, PyData.canLay0, PyData.canLayAll0, o2]
  · simp [kyD, PyData.depth, PyData.depthAll]
    omega
theorem ltB_ky {a b : Ky} (ha : okK a) (hb : okK b) : DnLt.ltB (kyD a) (kyD b) = some (kLt a b) := by
  show DnLt.ltB (.tuple [.int a.1, .tuple (a.2.map vo)]) (.tuple [.int b.1, .tuple (b.2.map vo)]) = _
  rw [DnLt.ltB, DnLt.ltA, PyData.eqv]
  unfold kLt
  by_cases h : a.1 = b.1
  · rw [if_pos h]
    have e : (a.1 == b.1) = true := by simp [h]
    rw [e, if_pos rfl, DnLt.ltA, PyData.eqv]
    have e2 := eqvAll_vo ha.1 hb.1
    cases h2 : PyData.eqvAll (a.2.map vo) (b.2.map vo) with
    | true =>
      rw [h2] at e2
      have e3 : ltR a.2 b.2 = false ∧ ltR b.2 a.2 = false := by simpa using e2.symm
      rw [if_pos rfl, e3.1]
      rfl
    | false =>
      rw [if_neg (by decide), DnLt.ltB, ltA_vo ha.1 hb.1]
  · rw [if_neg h]
    have e : (a.1 == b.1) = false := by simp [h]
    rw [e, if_neg (by decide), DnLt.ltB]
theorem cmp_ky {a b : Ky} (ha : okK a) (hb : okK b) : (cmp3 (kyD a) (kyD b) == .lt) = kLt a b := (cmp_of_ltB _ _ _ (ky_ord ha).1 (ky_ord hb).1 (ltB_ky ha hb)).symm
theorem kLt_asym {a b : Ky} (ha : okK a) (hb : okK b) (h : kLt a b = true) : kLt b a = false := by
  rw [← cmp_ky hb ha]
  rw [← cmp_ky ha hb] at h
  exact swo3.asym _ _ h
theorem kLt_irr {a : Ky} (ha : okK a) : kLt a a = false := by
  unfold kLt
  rw [if_pos rfl]
  exact ltR_irr ha.1
def wt (ms : List Mv) (k : Ky) : Int := (ms.map fun m => if eqK m.1 k = true then m.2 else 0).sum
def neg (ms : List Mv) : List Mv := ms.map fun m => (m.1, -m.2)
theorem okL_cons {m : Mv} {ms : List Mv} : okL (m :: ms) ↔ okK m.1 ∧ okL ms := by
  unfold okL
  simp only [List.mem_cons, forall_eq_or_imp]
/-- no key twice -/
def nd (F : List Mv) : Prop := F.Pairwise fun x y => x.1 ≠ y.1
def asc (F : List Mv) : Prop := F.Pairwise fun x y => kLt x.1 y.1 = true
theorem uniq : ∀ {xs ys : List Mv}, okL xs → okL ys → asc xs → asc ys → (∀ m, m ∈ xs ↔ m ∈ ys) → xs = ys
  | [], [], _, _, _, _, _ => rfl
  | [], y :: ys, _, _, _, _, h => by
    have := (h y).mpr List.mem_cons_self
    cases this
  | x :: xs, [], _, _, _, _, h => by
    have := (h x).mp List.mem_cons_self
    cases this
  | x :: xs, y :: ys, h1, h2, h3, h4, h => by
    obtain ⟨o1, o2⟩ := okL_cons.mp h1
    obtain ⟨p1, p2⟩ := okL_cons.mp h2
    obtain ⟨a1, a2⟩ := List.pairwise_cons.mp h3
    obtain ⟨b1, b2⟩ := List.pairwise_cons.mp h4
    have e : x = y := by
      rcases List.mem_cons.mp ((h x).mp List.mem_cons_self) with e | hx
      · exact e
      · rcases List.mem_cons.mp ((h y).mpr List.mem_cons_self) with e | hy
        · exact e.symm
        · have q1 := b1 x hx
          have q2 := a1 y hy
          rw [kLt_asym o1 p1 q2] at q1
          cases q1
    subst e
    refine congrArg _ (uniq o2 p2 a2 b2 fun m => ⟨fun hm => ?_, fun hm => ?_⟩)
    · rcases List.mem_cons.mp ((h m).mp (List.mem_cons_of_mem _ hm)) with e | h'
      · subst e
        have := a1 m hm
        rw [kLt_irr o1] at this
        cases this
      · exact h'
    · rcases List.mem_cons.mp ((h m).mpr (List.mem_cons_of_mem _ hm)) with e | h'
      · subst e
        have := b1 m hm
        rw [kLt_irr o1] at this
        cases this
      · exact h'
end Lw
set_option maxHeartbeats 4000000
namespace Lw
open PySem Dn Dm DnSo
end Lw
set_option maxHeartbeats 2000000
namespace Dm
open PySem Dn DnSo Lw
section
variable {ρ : Env} {Q : D → Env → Prop} {R : Fl → Env → Prop} {i p q v : Nat} {gi : Md (List D)} {gt : D → Env → Option Env} {gk : Md D} {gc g0 : Md Bool} {g2 gx : Md D}
theorem wo_TLst {n : Nat} {gs : List D → Env → Option Env} {ds : List D} {Q : Env → Prop} : Wo (gTLst n gs (.list ds) ρ) Q ↔ ds.length = n ∧ Wo (gs ds ρ) Q := by
  show Wo (if ds.length = n then gs ds ρ else none) Q ↔ _
  by_cases h : ds.length = n
  · rw [if_pos h]; simp [h]
  · rw [if_neg h, wo_none]; simp [h]
theorem empty_ownL : emptyOwnL (some (some (.own false (.list [])))) = true := rfl
theorem ws_grpL : Ws (sGrpL i gi gt p q v gk gc g0 g2 gx) ρ R ↔ Wm gi ρ fun ds ρ1 => emptyOwnL ρ1[i]? = true ∧ Wo (grpLD gt p q v gk gc g0 g2 gx ds [] (ρ1.set i none)) fun r => Wo (canSet r.2[i]?) fun _ => R .nx (r.2.set i (some (.val (.list (r.1.map gpD))))) := by
  unfold Ws Wm sGrpL
  rw [wo_bind]
  refine Iff.of_eq (congrArg _ (funext fun w => ?_))
  try dsimp only
  by_cases h : emptyOwnL w.2[i]? = true
  · rw [if_pos h]
    simp only [wo_bind, wo_some, setC_eq, h, true_and]
  · rw [if_neg h, wo_none]
    simp [h]
end
end Dm
set_option maxHeartbeats 2000000
namespace Dm
open PySem Dn Gz
def Wg (g : Gd) (ρ : Env) (Q : List D → Fl → Env → Prop) : Prop := Wo (g ρ) fun p => Q p.1 p.2.1 p.2.2
def thenG (t : Gd) (Q : List D → Fl → Env → Prop) : List D → Fl → Env → Prop
  | ys, .nx, ρ => Wg t ρ fun zs f ρ1 => Q (ys ++ zs) f ρ1
  | ys, .ret d, ρ => Q ys (.ret d) ρ
  | ys, .rof d, ρ => Q ys (.rof d) ρ
  | ys, .brk, ρ => Q ys .brk ρ
  | ys, .cnt, ρ => Q ys .cnt ρ
section
variable {ρ : Env} {Q : List D → Fl → Env → Prop}
theorem wg_P {s : Sd} : Wg (gP s) ρ Q ↔ Ws s ρ fun f ρ1 => Q [] f ρ1 := by
  unfold Wg Ws gP
  simp only [wo_bind, wo_some]
theorem wg_end : Wg gEnd ρ Q ↔ Q [] .nx ρ := wo_some
theorem wg_then {s t : Gd} : Wg (gThen s t) ρ Q ↔ Wg s ρ (thenG t Q) := by
  unfold Wg gThen
  rw [wo_bind]
  refine Iff.of_eq (congrArg _ (funext fun p => ?_))
  obtain ⟨ys, f, ρ1⟩ := p
  cases f with
  | nx =>
    show Wo ((t ρ1).bind fun q => some (ys ++ q.1, q.2)) _ = Wo (t ρ1) _
    rw [wo_bind]
    simp only [wo_some]
  | ret d => exact propext wo_some
  | rof d => exact propext wo_some
  | brk => exact propext wo_some
  | cnt => exact propext wo_some
theorem theng_nx {t : Gd} {ys : List D} : thenG t Q ys .nx ρ ↔ Wg t ρ fun zs f ρ1 => Q (ys ++ zs) f ρ1 := Iff.rfl
theorem wg_yield {e : Md D} : Wg (gYield e) ρ Q ↔ Wm e ρ fun d ρ1 => Gz.noOwn ρ1 = true ∧ Q [d] .nx ρ1 := by
  unfold Wg Wm gYield
  rw [wo_bind]
  refine Iff.of_eq (congrArg _ (funext fun p => ?_))
  rw [wo_ite, wo_some, wo_none]
  by_cases h : Gz.noOwn p.2 = true
  · rw [if_pos h]; simp [h]
  · rw [if_neg h]; simp [h]
theorem wm_callG {f : List D → Option (List D)} {a : Md (List D)} {Q : List D → Env → Prop} : Wm (gCallG f a) ρ Q ↔ Wm a ρ fun x ρ1 => Wo (f x) fun r => Q r ρ1 := by
  unfold Wm gCallG
  simp only [wo_bind, wo_some]
theorem wo_runG {N : Nat} {g : Gd} {ds : List D} {Q : List D → Prop} : Wo (runG N g ds) Q ↔ Wg g (envV N ds) fun ys f _ => f = .nx ∧ Q ys := by
  unfold Wg runG
  rw [wo_bind]
  refine Iff.of_eq (congrArg _ (funext fun p => ?_))
  obtain ⟨ys, f, ρ1⟩ := p
  cases f with
  | nx => exact propext ⟨fun h => ⟨rfl, wo_some.mp h⟩, fun h => wo_some.mpr h.2⟩
  | ret d => exact propext ⟨fun h => (wo_none.mp h).elim, fun h => (by cases h.1)⟩
  | rof d => exact propext ⟨fun h => (wo_none.mp h).elim, fun h => (by cases h.1)⟩
  | brk => exact propext ⟨fun h => (wo_none.mp h).elim, fun h => (by cases h.1)⟩
  | cnt => exact propext ⟨fun h => (wo_none.mp h).elim, fun h => (by cases h.1)⟩
end
end Dm
set_option maxHeartbeats 4000000
namespace Lw
open PySem Dn Dm DnSo
end Lw
set_option maxHeartbeats 4000000
namespace Lw
open PySem Dn Dm DnSo
end Lw
set_option maxHeartbeats 4000000
namespace Lw
open PySem PySem.Spec PyProof.Rows L2 Dn Dm DnSo
theorem ltV_as9 {a b : D} (ha : gv a) (hb : gv b) (h : ltV a b = true) : ltV b a = false := by
  have h1 := kLt_asym (a := ((0 : Int), [a])) (b := ((0 : Int), [b])) ⟨by simpa using ha, by simp⟩ ⟨by simpa using hb, by simp⟩ (by simp [kLt, ltR, h])
  cases q : ltV b a with
  | false => rfl
  | true => simp [kLt, ltR, q] at h1
theorem leB_vo {a b : D} (ha : gv a) (hb : gv b) (h : PyData.eqv (vo a) (vo b) = false) : DnLe.leB (vo a) (vo b) = some (ltV a b) := by
  rcases gv5 ha with rfl | rfl | rfl | ⟨i, rfl⟩ | ⟨s, rfl⟩ <;> rcases gv5 hb with rfl | rfl | rfl | ⟨j, rfl⟩ | ⟨t, rfl⟩ <;> simp only [vo, PyData.eqv, PyData.eqvAll, ltV, rk, DnLe.leB, DnLe.leA] at h ⊢ <;> first | rfl | (exact absurd h (by decide)) | skip
  · simp only [beq_self_eq_true, ↓reduceIte, ne_eq, not_true_eq_false, Bool.and_true, Bool.true_and] at h ⊢
    refine (if_neg (by rw [h]; decide)).trans ?_
    have : i ≠ j := by simpa using h
    congr 1
    rw [Bool.eq_iff_iff]
    simp only [decide_eq_true_eq]
    omega
  · simp only [beq_self_eq_true, ↓reduceIte, ne_eq, not_true_eq_false, Bool.and_true, Bool.true_and] at h ⊢
    refine (if_neg (by rw [h]; decide)).trans ?_
    have e := str_tri s t
    rw [h] at e
    congr 1
    cases h1 : decide (s.cps.toList < t.cps.toList) <;> cases h2 : decide (t.cps.toList < s.cps.toList) <;> rw [h1, h2] at e <;> simp at e ⊢
    have h3 := of_decide_eq_true h1
    have h4 := of_decide_eq_true h2
    exact absurd (List.lt_trans h3 h4) (List.lt_irrefl _)
end Lw
set_option maxHeartbeats 2000000
namespace Dm
open PySem Dn
def eitherQ {α : Type} (Q : α → Env → Prop) (R : Xc → Env → Prop) : α ⊕ Xc → Env → Prop
  | .inl a, ρ => Q a ρ
  | .inr x, ρ => R x ρ
def Wx {α : Type} (g : Mx α) (ρ : Env) (Q : α → Env → Prop) (R : Xc → Env → Prop) : Prop := Wo (g ρ) fun p => eitherQ Q R p.1 p.2
section
variable {α β : Type} {ρ : Env} {Q : α → Env → Prop} {R : Xc → Env → Prop}
theorem either_l {a : α} : eitherQ Q R (.inl a) ρ ↔ Q a ρ := Iff.rfl
theorem either_r {x : Xc} : eitherQ Q R (.inr x) ρ ↔ R x ρ := Iff.rfl
theorem wx_ok {g : Md α} : Wx (xOk g) ρ Q R ↔ Wm g ρ Q := by
  unfold Wx xOk Wm
  simp only [wo_bind, wo_some]
  exact Iff.rfl
theorem wx_okD {g : Md D} {Q : D → Env → Prop} : Wx (xOk g) ρ Q R ↔ Wm g ρ Q := wx_ok
theorem wx_okL {g : Md (List D)} {Q : List D → Env → Prop} : Wx (xOk g) ρ Q R ↔ Wm g ρ Q := wx_ok
theorem wx_okB {g : Md Bool} {Q : Bool → Env → Prop} : Wx (xOk g) ρ Q R ↔ Wm g ρ Q := wx_ok
theorem wx_okS {g : Sd} {Q : Fl → Env → Prop} : Wx (xOk g) ρ Q R ↔ Ws g ρ Q := by
  unfold Wx xOk Ws
  simp only [wo_bind, wo_some]
  exact Iff.rfl
theorem wx_bind {g : Mx α} {k : α → Mx β} {Q : β → Env → Prop} : Wx (xBind g k) ρ Q R ↔ Wx g ρ (fun a ρ1 => Wx (k a) ρ1 Q R) R := by
  unfold Wx xBind
  rw [wo_bind]
  refine Iff.of_eq (congrArg _ (funext fun p => ?_))
  obtain ⟨f, ρ1⟩ := p
  cases f with
  | inl a => rfl
  | inr x => exact propext wo_some
theorem wx_pure {o : Option α} : Wx (xPure o) ρ Q R ↔ Wo o fun a => Q a ρ := by
  unfold Wx xPure
  simp only [wo_bind, wo_some]
  exact Iff.rfl
theorem wx_lift {o : Option (α ⊕ Xc)} : Wx (xLift o) ρ Q R ↔ Wo o fun a => eitherQ Q R a ρ := by
  unfold Wx xLift
  simp only [wo_bind, wo_some]
theorem wx_ite {c : Prop} [Decidable c] {a b : Mx α} : Wx (if c then a else b) ρ Q R ↔ if c then Wx a ρ Q R else Wx b ρ Q R := by
  by_cases h : c
  · rw [if_pos h, if_pos h]
  · rw [if_neg h, if_neg h]
theorem wx_cons {g : Mx D} {gs : Mx (List D)} {Q : List D → Env → Prop} : Wx (xCons g gs) ρ Q R ↔ Wx g ρ (fun d ρ1 => Wx gs ρ1 (fun ds ρ2 => Q (d :: ds) ρ2) R) R := by
  unfold xCons
  simp only [wx_bind, wx_pure, wo_some]
theorem wx_call {f : List D → Option (D ⊕ Xc)} {gs : Mx (List D)} {Q : D → Env → Prop} : Wx (xCall f gs) ρ Q R ↔ Wx gs ρ (fun ds ρ1 => Wo (f ds) fun r => eitherQ Q R r ρ1) R := by
  unfold xCall
  simp only [wx_bind, wx_lift]
theorem wx_app {f : List D → Option D} {gs : Mx (List D)} {Q : D → Env → Prop} : Wx (xApp f gs) ρ Q R ↔ Wx gs ρ (fun ds ρ1 => Wo (f ds) fun r => Q r ρ1) R := by
  unfold xApp
  simp only [wx_bind, wx_pure]
theorem wx_bin {f : D → D → Option D} {a b : Mx D} {Q : D → Env → Prop} : Wx (xBin f a b) ρ Q R ↔ Wx a ρ (fun x ρ1 => Wx b ρ1 (fun y ρ2 => Wo (f x y) fun r => Q r ρ2) R) R := by
  unfold xBin
  simp only [wx_bind, wx_pure]
theorem wx_tst {a : Mx D} {Q : Bool → Env → Prop} : Wx (xTst a) ρ Q R ↔ Wx a ρ (fun x ρ1 => Wo (bOf x) fun r => Q r ρ1) R := by
  unfold xTst
  simp only [wx_bind, wx_pure]
theorem wx_not {a : Mx Bool} {Q : Bool → Env → Prop} : Wx (xNot a) ρ Q R ↔ Wx a ρ (fun x ρ1 => Q (!x) ρ1) R := by
  unfold xNot
  simp only [wx_bind, wx_pure, wo_some]
def thenX (t : Sx) (Q : Fl → Env → Prop) (R : Xc → Env → Prop) : Fl → Env → Prop
  | .nx, ρ => Wx t ρ Q R
  | .ret d, ρ => Q (.ret d) ρ
  | .rof d, ρ => Q (.rof d) ρ
  | .brk, ρ => Q .brk ρ
  | .cnt, ρ => Q .cnt ρ
variable {S : Fl → Env → Prop}
theorem thenx_nx {t : Sx} : thenX t S R .nx ρ ↔ Wx t ρ S R := Iff.rfl
theorem thenx_ret {t : Sx} {d : D} : thenX t S R (.ret d) ρ ↔ S (.ret d) ρ := Iff.rfl
theorem thenx_rof {t : Sx} {d : D} : thenX t S R (.rof d) ρ ↔ S (.rof d) ρ := Iff.rfl
theorem thenx_brk {t : Sx} : thenX t S R .brk ρ ↔ S .brk ρ := Iff.rfl
theorem thenx_cnt {t : Sx} : thenX t S R .cnt ρ ↔ S .cnt ρ := Iff.rfl
theorem wx_seq {s t : Sx} : Wx (xSeq s t) ρ S R ↔ Wx s ρ (thenX t S R) R := by
  unfold Wx xSeq
  rw [wo_bind]
  refine Iff.of_eq (congrArg _ (funext fun p => ?_))
  obtain ⟨f, ρ1⟩ := p
  cases f with
  | inr x => exact propext wo_some
  | inl f =>
    cases f with
    | nx => rfl
    | ret d => exact propext wo_some
    | rof d => exact propext wo_some
    | brk => exact propext wo_some
    | cnt => exact propext wo_some
theorem wx_if {g : Mx Bool} {s t : Sx} : Wx (xIf g s t) ρ S R ↔ Wx g ρ (fun b ρ1 => if b = true then Wx s ρ1 S R else Wx t ρ1 S R) R := by
  unfold xIf
  simp only [wx_bind, wx_ite]
theorem wx_ret {g : Mx D} : Wx (xRet g) ρ S R ↔ Wx g ρ (fun d ρ1 => S (.ret d) ρ1) R := by
  unfold xRet
  simp only [wx_bind, wx_pure, wo_some]
theorem wx_drop {g : Mx D} : Wx (xDrop g) ρ S R ↔ Wx g ρ (fun d ρ1 => S .nx ρ1) R := by
  unfold xDrop
  simp only [wx_bind, wx_pure, wo_some]
theorem wx_set {i : Nat} {g : Mx D} : Wx (xSet i g) ρ S R ↔ Wx g ρ (fun d ρ1 => Wo (canSet ρ1[i]?) fun _ => S .nx (ρ1.set i (some (.val d)))) R := by
  unfold xSet
  rw [wx_bind]
  have e : ∀ d ρ1, Wx (fun ρ => (setC i (.val d) ρ).bind fun r => some ((.inl .nx : Fl ⊕ Xc), r)) ρ1 S R ↔ Wo (canSet ρ1[i]?) fun _ => S .nx (ρ1.set i (some (.val d))) := fun d ρ1 => by
    unfold Wx
    simp only [wo_bind, wo_some, setC_eq]
    exact Iff.rfl
  simp only [e]
theorem wx_apd {i : Nat} {g : Mx D} : Wx (xApd i g) ρ S R ↔ Wo (ownL ρ[i]?) fun _ => Wx g ρ (fun d ρ1 => Wo (ownL ρ1[i]?) fun p => p.2.length < 16777216 ∧ S .nx (ρ1.set i (some (.own p.1 (.list (p.2 ++ [d])))))) R := by
  have e : ∀ d ρ1, Wx (fun ρ1 : Env => (ownL ρ1[i]?).bind fun p => if p.2.length < 16777216 then some ((.inl .nx : Fl ⊕ Xc), ρ1.set i (some (.own p.1 (.list (p.2 ++ [d]))))) else none) ρ1 S R ↔ Wo (ownL ρ1[i]?) fun p => p.2.length < 16777216 ∧ S .nx (ρ1.set i (some (.own p.1 (.list (p.2 ++ [d]))))) := fun d ρ1 => by
    unfold Wx
    rw [wo_bind]
    refine Iff.of_eq (congrArg _ (funext fun p => propext ?_))
    by_cases q : p.2.length < 16777216
    · rw [if_pos q, wo_some]
      simp [q, eitherQ]
    · rw [if_neg q, wo_none]
      simp [q]
  unfold xApd
  have e2 : ∀ (u : Bool × List D), Wx (xBind g fun d ρ1 => (ownL ρ1[i]?).bind fun p => if p.2.length < 16777216 then some ((.inl .nx : Fl ⊕ Xc), ρ1.set i (some (.own p.1 (.list (p.2 ++ [d]))))) else none) ρ S R ↔ Wx g ρ (fun d ρ1 => Wo (ownL ρ1[i]?) fun p => p.2.length < 16777216 ∧ S .nx (ρ1.set i (some (.own p.1 (.list (p.2 ++ [d])))))) R := fun _ => by
    rw [wx_bind]
    simp only [e]
  unfold Wx at e2 ⊢
  rw [wo_bind]
  exact Iff.of_eq (congrArg _ (funext fun u => propext (e2 u)))
def strOf : D → Option Str
  | .str m => some m
  | _ => none
theorem strOf_s {m : Str} : strOf (.str m) = some m := rfl
theorem wx_raise {n : Str} {g : Md D} : Wx (xRaise n g) ρ S R ↔ Wm g ρ fun d ρ1 => Wo (strOf d) fun m => R ⟨n, m⟩ ρ1 := by
  unfold Wx xRaise Wm
  rw [wo_bind]
  refine Iff.of_eq (congrArg _ (funext fun p => ?_))
  obtain ⟨d, ρ1⟩ := p
  cases d <;> (refine propext ?_; simp only [strOf, wo_some, wo_none]; try exact Iff.rfl)
theorem wx_for {gi : Md (List D)} {tg : D → Env → Option Env} {b : Sx} : Wx (xFor gi tg b) ρ S R ↔ Wm gi ρ fun ds ρ1 => Wx (forX tg b ds) ρ1 S R := by
  unfold Wx Wm xFor
  rw [wo_bind]
theorem forx_nil {tg : D → Env → Option Env} {b : Sx} : Wx (forX tg b []) ρ S R ↔ S .nx ρ := wo_some
def turnX (t : Sx) (S : Fl → Env → Prop) (R : Xc → Env → Prop) : Fl → Env → Prop
  | .nx, ρ => Wx t ρ S R
  | .cnt, ρ => Wx t ρ S R
  | .brk, ρ => S .nx ρ
  | .ret d, ρ => S (.ret d) ρ
  | .rof d, ρ => S (.rof d) ρ
theorem forx_cons {tg : D → Env → Option Env} {b : Sx} {d : D} {ds : List D} : Wx (forX tg b (d :: ds)) ρ S R ↔ Wo (tg d ρ) fun ρ1 => Wx b ρ1 (turnX (forX tg b ds) S R) R := by
  unfold Wx
  show Wo ((tg d ρ).bind fun ρ1 => (b ρ1).bind _) _ ↔ _
  rw [wo_bind]
  refine Iff.of_eq (congrArg _ (funext fun ρ1 => ?_))
  rw [wo_bind]
  refine congrArg _ (funext fun p => ?_)
  obtain ⟨f, ρ2⟩ := p
  cases f with
  | inr x => exact propext wo_some
  | inl f =>
    cases f with
    | nx => rfl
    | cnt => rfl
    | brk => exact propext wo_some
    | ret d => exact propext wo_some
    | rof d => exact propext wo_some
theorem wx_mono {g : Mx α} {Q' : α → Env → Prop} {R' : Xc → Env → Prop} (h : Wx g ρ Q R) (i : ∀ a ρ', Q a ρ' → Q' a ρ') (j : ∀ x ρ', R x ρ' → R' x ρ') : Wx g ρ Q' R' := wo_mono h fun p q => by
  obtain ⟨f, ρ1⟩ := p
  cases f with
  | inl a => exact i a ρ1 q
  | inr x => exact j x ρ1 q
theorem ws_noX {g : Sx} : Ws (noX g) ρ S ↔ Wx g ρ S fun _ _ => False := by
  unfold Ws Wx noX
  rw [wo_bind]
  refine Iff.of_eq (congrArg _ (funext fun p => ?_))
  obtain ⟨f, ρ1⟩ := p
  cases f with
  | inl f => exact propext wo_some
  | inr x => exact propext (wo_none.trans Iff.rfl)
theorem wx_try {h : Str → Option Bool} {gb : Sx} {gs : Xc → Sd} : Wx (xTry h gb gs) ρ S R ↔ Wx gb ρ S fun x ρ1 => Wo (h x.c) fun b => if b = true then Ws (gs x) ρ1 S else R x ρ1 := by
  unfold Wx xTry
  rw [wo_bind]
  refine Iff.of_eq (congrArg _ (funext fun p => ?_))
  obtain ⟨f, ρ1⟩ := p
  cases f with
  | inl f => exact propext wo_some
  | inr x =>
    refine propext ?_
    show Wo ((h x.c).bind _) _ ↔ Wo (h x.c) _
    rw [wo_bind]
    refine Iff.of_eq (congrArg _ (funext fun b => ?_))
    cases b with
    | true => exact propext wx_okS
    | false => exact propext wo_some
def retQ (S : Fl → Env → Prop) : Fl → Env → Prop
  | .ret d, ρ => S (.ret d) ρ
  | _, _ => False
theorem retq_ret {d : D} : retQ S (.ret d) ρ ↔ S (.ret d) ρ := Iff.rfl
theorem ws_clear {i : Nat} {g : Sd} : Ws (clearS i g) ρ S ↔ (notOwn ρ i = true ∧ i < ρ.length) ∧ Ws g (ρ.set i none) (retQ S) := by
  unfold Ws clearS
  by_cases h : notOwn ρ i = true ∧ i < ρ.length
  · rw [if_pos h, wo_bind]
    simp only [h, and_self, true_and]
    refine Iff.of_eq (congrArg _ (funext fun p => ?_))
    obtain ⟨f, ρ1⟩ := p
    cases f with
    | ret d => exact propext wo_some
    | nx => exact propext wo_none
    | brk => exact propext wo_none
    | cnt => exact propext wo_none
    | rof d => exact propext wo_none
  · rw [if_neg h, wo_none]
    simp [h]
theorem wx_tryA {i : Nat} {h : Str → Option Bool} {gb : Sx} {gs : Xc → Sd} : Wx (xTryA i h gb gs) ρ S R ↔ Wx gb ρ S fun x ρ1 => Wo (h x.c) fun b => if b = true then (notOwn ρ1 i = true ∧ i < ρ1.length) ∧ Ws (gs x) (ρ1.set i none) (retQ S) else R x ρ1 := by
  unfold xTryA
  rw [wx_try]
  simp only [ws_clear]
/-- a def's answer -/
def endQ (Q : D ⊕ Xc → Prop) : Fl → Env → Prop
  | .nx, _ => Q (.inl .none)
  | .ret d, _ => Q (.inl d)
  | _, _ => False
theorem endq_nx {Q : D ⊕ Xc → Prop} : endQ Q .nx ρ ↔ Q (.inl .none) := Iff.rfl
theorem endq_ret {Q : D ⊕ Xc → Prop} {d : D} : endQ Q (.ret d) ρ ↔ Q (.inl d) := Iff.rfl
theorem wo_runX {N : Nat} {g : Sx} {ds : List D} {Q : D ⊕ Xc → Prop} : Wo (runX N g ds) Q ↔ Wx g (envV N ds) (endQ Q) fun x _ => Q (.inr x) := by
  unfold Wx runX
  rw [wo_bind]
  refine Iff.of_eq (congrArg _ (funext fun p => ?_))
  obtain ⟨f, ρ1⟩ := p
  cases f with
  | inr x => exact propext wo_some
  | inl f =>
    cases f with
    | nx => exact propext wo_some
    | ret d => exact propext wo_some
    | rof d => exact propext wo_none
    | brk => exact propext wo_none
    | cnt => exact propext wo_none
theorem forx_go {α : Type} (h : α → D) {tg : D → Env → Option Env} {b : Sx} (I : List α → Env → Prop) : ∀ (xs p : List α) (ρ : Env), I p ρ →
    (∀ (q : List α) (x : α) (r : List α) (ρ : Env), p ++ xs = q ++ x :: r → I q ρ → Wo (tg (h x) ρ) fun ρ1 => Wx b ρ1 (stepQ (I (q ++ [x])) S) R) →
    (∀ ρ', I (p ++ xs) ρ' → S .nx ρ') → Wx (forX tg b (xs.map h)) ρ S R
  | [], p, ρ, h0, _, fin => forx_nil.mpr (fin ρ (by rw [List.append_nil]; exact h0))
  | x :: xs, p, ρ, h0, st, fin => by
    rw [List.map_cons, forx_cons]
    refine wo_mono (st p x xs ρ rfl h0) fun ρ1 h1 => wx_mono h1 (fun f ρ2 h2 => ?_) fun _ _ z => z
    have go : I (p ++ [x]) ρ2 → Wx (forX tg b (xs.map h)) ρ2 S R := fun h3 => forx_go h I xs (p ++ [x]) ρ2 h3 (fun q y r ρ' e => st q y r ρ' (by rw [← e]; simp)) fun ρ' h4 => fin ρ' (by simpa using h4)
    cases f with
    | nx => exact go h2
    | cnt => exact go h2
    | brk => exact h2
    | ret d => exact h2
    | rof d => exact h2
theorem wx_forA {α : Type} (h : α → D) {xs : List α} {tg : D → Env → Option Env} {b : Sx} (I : List α → Env → Prop) (h0 : I [] ρ)
    (st : ∀ (q : List α) (x : α) (r : List α) (ρ : Env), xs = q ++ x :: r → I q ρ → Wo (tg (h x) ρ) fun ρ1 => Wx b ρ1 (stepQ (I (q ++ [x])) S) R)
    (fin : ∀ ρ', I xs ρ' → S .nx ρ') : Wx (forX tg b (xs.map h)) ρ S R := forx_go h I xs [] ρ h0 st fin
theorem hL_hd {n : Str} {b : Bool} {g : Str → Sd} {l : List (Str × Bool × (Str → Sd))} : hL ((n, b, g) :: l) n = some b := by
  unfold hL
  rw [lookup_hd, if_pos rfl]
  rfl
theorem gL_hd {n m : Str} {b : Bool} {g : Str → Sd} {l : List (Str × Bool × (Str → Sd))} : gL ((n, b, g) :: l) ⟨n, m⟩ = g m := by
  unfold gL
  rw [lookup_hd, if_pos rfl]
end
end Dm
set_option maxHeartbeats 2000000
namespace Dm
open PySem Dn
section
variable {ρ : Env} {R : Xc → Env → Prop}
def Wl (vs : List Nat) (tg : D → Env → Option Env) (tt : Md Bool) (te : Mx D) (ds : List D) (ρ : Env) (Q : List D → Env → Prop) (R : Xc → Env → Prop) : Prop := Wo (lcX vs tg tt te ds ρ) fun p => eitherQ Q R p.1 p.2
theorem wx_own {i : Nat} {g : Mx D} {S : Fl → Env → Prop} : Wx (xOwn i g) ρ S R ↔ Wx g ρ (fun d ρ1 => Wo (canSet ρ1[i]?) fun _ => S .nx (ρ1.set i (some (.own false d)))) R := by
  unfold xOwn
  rw [wx_bind]
  have e : ∀ d ρ1, Wx (fun ρ => (setC i (.own false d) ρ).bind fun r => some ((.inl .nx : Fl ⊕ Xc), r)) ρ1 S R ↔ Wo (canSet ρ1[i]?) fun _ => S .nx (ρ1.set i (some (.own false d))) := fun d ρ1 => by
    unfold Wx
    simp only [wo_bind, wo_some, setC_eq]
    exact Iff.rfl
  simp only [e]
variable {vs : List Nat} {tg : D → Env → Option Env} {tt : Md Bool} {te : Mx D}
theorem wl_nil {Q : List D → Env → Prop} : Wl vs tg tt te [] ρ Q R ↔ Q [] ρ := wo_some
theorem wl_cons {d : D} {ds : List D} {Q : List D → Env → Prop} : Wl vs tg tt te (d :: ds) ρ Q R ↔ Wo (tg d ρ) fun ρ1 => Wm tt ρ1 fun b ρ2 => if b = true then Wx te ρ2 (fun y ρ3 => Wl vs tg tt te ds (wipeE ρ3 vs) (fun l ρ4 => Q (y :: l) ρ4) R) (fun x ρ3 => R x (wipeE ρ3 vs)) else Wl vs tg tt te ds (wipeE ρ2 vs) Q R := by
  unfold Wl
  show Wo ((tg d ρ).bind fun ρ1 => (tt ρ1).bind fun p => if p.1 = true then (te p.2).bind _ else lcX vs tg tt te ds (wipeE p.2 vs)) _ ↔ _
  rw [wo_bind]
  refine Iff.of_eq (congrArg _ (funext fun ρ1 => ?_))
  rw [wo_bind]
  refine congrArg _ (funext fun p => ?_)
  obtain ⟨b, ρ2⟩ := p
  cases b with
  | false => rfl
  | true =>
    show Wo ((te ρ2).bind _) _ = Wx te ρ2 _ _
    unfold Wx
    rw [wo_bind]
    refine congrArg _ (funext fun p => ?_)
    obtain ⟨r, ρ3⟩ := p
    cases r with
    | inr x => exact propext wo_some
    | inl y =>
      refine propext ?_
      show Wo ((lcX vs tg tt te ds (wipeE ρ3 vs)).bind fun r => some (xapp [y] r.1, r.2)) _ ↔ Wo (lcX vs tg tt te ds (wipeE ρ3 vs)) _
      rw [wo_bind]
      refine Iff.of_eq (congrArg _ (funext fun p => ?_))
      obtain ⟨r, ρ4⟩ := p
      cases r with
      | inl l => exact propext wo_some
      | inr x => exact propext wo_some
theorem wx_lc {gi : Md (List D)} {Q : D → Env → Prop} : Wx (xLc vs gi tg tt te) ρ Q R ↔ Wm gi ρ fun ds ρ1 => (ds.length ≤ 16777216 ∧ vs.all (notOwn ρ1) = true) ∧ Wl vs tg tt te ds (wipeE ρ1 vs) (fun l ρ2 => Q (.list l) (backE ρ1 vs ρ2)) (fun x ρ2 => R x (backE ρ1 vs ρ2)) := by
  unfold Wx xLc Wm
  rw [wo_bind]
  refine Iff.of_eq (congrArg _ (funext fun p => propext ?_))
  obtain ⟨ds, ρ1⟩ := p
  by_cases h : ds.length ≤ 16777216 ∧ vs.all (notOwn ρ1) = true
  · simp only [h, and_self, ↓reduceIte, true_and, wo_bind]
    refine Iff.of_eq (congrArg _ (funext fun p => ?_))
    obtain ⟨r, ρ2⟩ := p
    cases r with
    | inl l => exact propext wo_some
    | inr x => exact propext wo_some
  · simp only [h, ↓reduceIte, wo_none, false_and]
theorem wm_callIOF {f : D → List D → Option (D × D)} {g : Md D} {Q : D → Env → Prop} : Wm (gCallIOF f g) ρ Q ↔ Wm g ρ fun d ρ1 => Wo (f d []) fun r => Q r.1 ρ1 := by
  unfold Wm gCallIOF
  simp only [wo_bind, wo_some]
end
def keysE : D → Option (List D)
  | .dict es => if dkOk es = true then some (keysU es) else none
  | _ => none
theorem wm_keys {g : Md D} {ρ : Env} {Q : List D → Env → Prop} : Wm (gKeys g) ρ Q ↔ Wm g ρ fun d ρ1 => Wo (keysE d) fun ds => Q ds ρ1 := by
  unfold Wm gKeys
  rw [wo_bind]
  refine Iff.of_eq (congrArg _ (funext fun p => ?_))
  obtain ⟨d, ρ1⟩ := p
  cases d with
  | dict es =>
    refine propext ?_
    show Wo (if dkOk es = true then some (keysU es, ρ1) else none) _ ↔ Wo (if dkOk es = true then some (keysU es) else none) _
    by_cases h : dkOk es = true
    · rw [if_pos h, if_pos h, wo_some, wo_some]
    · rw [if_neg h, if_neg h, wo_none, wo_none]
  | none => exact propext (wo_none.trans wo_none.symm)
  | bool _ => exact propext (wo_none.trans wo_none.symm)
  | int _ => exact propext (wo_none.trans wo_none.symm)
  | str _ => exact propext (wo_none.trans wo_none.symm)
  | list _ => exact propext (wo_none.trans wo_none.symm)
  | tuple _ => exact propext (wo_none.trans wo_none.symm)
end Dm
set_option maxHeartbeats 4000000
namespace Lw
open PySem PySem.Spec PyProof.Rows L2 Dn
def topS (i : Nat) : Stmt := PySem.Challenge.pw_tideweir_k13_columns_and_substitution.main.body.getD i (.Pass ⟨0, 0, 0, 0⟩)
abbrev s__law_rank : Stmt := topS 29
abbrev N__law_rank : List Str := ["value"]
theorem sc__law_rank : FnScope N__law_rank ["value"] (defScope s__law_rank) := ⟨rfl, rfl, rfl, by decide +kernel, rfl, by decide +kernel, by decide +kernel⟩
def g__law_rank : Sd := (sSeq (sIf (gTst (gBin isD (gVar 0) (gC .none))) (sRet (gC (.int 0))) sNext)
  (sSeq (sIf (gTru (gApp (isiF "bool") (gCons (gVar 0) gNil))) (sRet (gBin addD (gC (.int 1)) (gApp intF (gCons (gVar 0) gNil)))) sNext)
  (sSeq (sIf (gTru (gApp (isiF "int") (gCons (gVar 0) gNil))) (sRet (gC (.int 3))) sNext)
  (sRet (gC (.int 4))))))
def f__law_rank : List D → Option D := runV 1 g__law_rank
abbrev s__law_before : Stmt := topS 30
abbrev N__law_before : List Str := ["first", "second"]
theorem sc__law_before : FnScope N__law_before ["first", "second"] (defScope s__law_before) := ⟨rfl, rfl, rfl, by decide +kernel, rfl, by decide +kernel, by decide +kernel⟩
def g__law_before : Sd := (sSeq (sIf (gTst (gBin neD (gApp f__law_rank (gCons (gVar 0) gNil)) (gApp f__law_rank (gCons (gVar 1) gNil)))) (sRet (gBin ltD (gApp f__law_rank (gCons (gVar 0) gNil)) (gApp f__law_rank (gCons (gVar 1) gNil)))) sNext)
  (sSeq (sIf (gTst (gBin ltD (gApp f__law_rank (gCons (gVar 0) gNil)) (gC (.int 3)))) (sRet (gC (.bool false))) sNext)
  (sRet (gBin ltD (gVar 0) (gVar 1)))))
def f__law_before : List D → Option D := runV 2 g__law_before
abbrev s__law_cell : Stmt := topS 24
abbrev N__law_cell : List Str := ["script", "k"]
theorem sc__law_cell : FnScope N__law_cell ["script", "k"] (defScope s__law_cell) := ⟨rfl, rfl, rfl, by decide +kernel, rfl, by decide +kernel, by decide +kernel⟩
def g__law_cell : Sd := (sSeq (sIf (gTst (gBin ltD (gVar 1) (gApp lenF (gCons (gVar 0) gNil)))) (sRet (gBin ixD (gVar 0) (gVar 1))) sNext)
  (sRet (gC (.int 0))))
def f__law_cell : List D → Option D := runV 2 g__law_cell
abbrev s__law_columns : Stmt := topS 39
abbrev N__law_columns : List Str := ["expression", "found", "part", "name"]
theorem sc__law_columns : FnScope N__law_columns ["expression"] (defScope s__law_columns) := ⟨rfl, rfl, rfl, by decide +kernel, rfl, by decide +kernel, by decide +kernel⟩
def g__law_columns (r__law_columns : List D → Option D) : Sd := (sSeq (sIf (gTst (gBin eqD (gBin ixD (gVar 0) (gC (.int 0))) (gC (.str "column")))) (sRet (gApp mkLst (gCons (gBin ixD (gVar 0) (gC (.int 1))) gNil))) sNext)
  (sSeq (sIf (gTst (gBin eqD (gBin ixD (gVar 0) (gC (.int 0))) (gC (.str "value")))) (sRet (gApp mkLst gNil)) sNext)
  (sSeq (sSet 1 (gApp mkLst gNil))
  (sSeq (sFor (gSeq (gSl (gVar 0) (gPart (gC (.int 1))) gNoP)) (gTN 2)
  (sIf (gTru (gApp (isiF "tuple") (gCons (gVar 2) gNil))) (sSet 1 (gBin addD (gVar 1) (gLc [3] (gSeq (gApp r__law_columns (gCons (gVar 2) gNil))) (gTN 3) (gTst (gBin ninD (gVar 3) (gVar 1))) (gVar 3)))) sNext))
  (sRet (gVar 1))))))
def fuel__law_columns : Nat → (List D → Option D)
  | 0 => (runV 4 sFail)
  | n + 1 => (runV 4 (g__law_columns (fuel__law_columns n)))
def f__law_columns : List D → Option D := (fuel__law_columns 9)
abbrev s__law_digit : Stmt := topS 26
abbrev N__law_digit : List Str := ["state", "many", "digit"]
theorem sc__law_digit : FnScope N__law_digit ["state", "many"] (defScope s__law_digit) := ⟨rfl, rfl, rfl, by decide +kernel, rfl, by decide +kernel, by decide +kernel⟩
def g__law_digit : Sd := (sSeq (sSet 2 (gBin modD (gApp intF (gCons (gIxB 0 (gC (.int 0))) gNil)) (gVar 1)))
  (sSeq (sSetIx 0 (gBin fdivD (gIxB 0 (gC (.int 0))) (gVar 1)) (gC (.int 0)))
  (sRet (gVar 2))))
def f__law_digit : D → List D → Option (D × D) := runIO 3 g__law_digit
abbrev s__law_flag : Stmt := topS 36
abbrev N__law_flag : List Str := ["state", "levels", "fields", "choice", "kind", "first", "sign"]
theorem sc__law_flag : FnScope N__law_flag ["state", "levels", "fields"] (defScope s__law_flag) := ⟨rfl, rfl, rfl, by decide +kernel, rfl, by decide +kernel, by decide +kernel⟩
def g__law_flag (r__law_flag : D → List D → Option (D × D)) (r__law_expression : D → List D → Option (D × D)) : Sd := (sSeq (sSet 3 (gCallIO 0 f__law_digit (gCons (gC (.int 6)) gNil)))
  (sSeq (sSet 4 (gBin ixD (gApp mkLst (gCons (gC (.str "flag")) (gCons (gC (.str "whole")) (gCons (gC (.str "text")) gNil)))) (gCallIO 0 f__law_digit (gCons (gC (.int 3)) gNil))))
  (sSeq (sIf (gTst (gBin eqD (gVar 3) (gC (.int 0)))) (sRet (gApp mkTup (gCons (gC (.str "not")) (gCons (gCallIO 0 r__law_expression (gCons (gVar 1) (gCons (gVar 2) (gCons (gC (.str "flag")) gNil)))) gNil)))) sNext)
  (sSeq (sIf (gTst (gBin eqD (gVar 3) (gC (.int 1)))) (sRet (gApp mkTup (gCons (gC (.str "null")) (gCons (gCallIO 0 r__law_expression (gCons (gVar 1) (gCons (gVar 2) (gCons (gVar 4) gNil)))) gNil)))) sNext)
  (sSeq (sIf (gTst (gBin ltD (gVar 3) (gC (.int 4)))) (sSet 4 (gC (.str "flag"))) sNext)
  (sSeq (sSet 5 (gCallIO 0 r__law_expression (gCons (gVar 1) (gCons (gVar 2) (gCons (gVar 4) gNil)))))
  (sSeq (sSet 6 (gBin ixD (gApp mkLst (gCons (gC (.str "and")) (gCons (gC (.str "or")) gNil))) (gCallIO 0 f__law_digit (gCons (gC (.int 2)) gNil))))
  (sSeq (sIf (gTst (gBin geD (gVar 3) (gC (.int 4)))) (sSet 6 (gBin ixD (gApp mkLst (gCons (gC (.str "==")) (gCons (gC (.str "<")) (gCons (gC (.str "<=")) gNil)))) (gCallIO 0 f__law_digit (gCons (gC (.int 3)) gNil)))) sNext)
  (sRet (gApp mkTup (gCons (gC (.str "binary")) (gCons (gVar 6) (gCons (gVar 5) (gCons (gCallIO 0 r__law_expression (gCons (gVar 1) (gCons (gVar 2) (gCons (gVar 4) gNil)))) gNil))))))))))))))
abbrev s__law_names : Stmt := topS 34
abbrev N__law_names : List Str := ["fields", "kind", "field"]
theorem sc__law_names : FnScope N__law_names ["fields", "kind"] (defScope s__law_names) := ⟨rfl, rfl, rfl, by decide +kernel, rfl, by decide +kernel, by decide +kernel⟩
def g__law_names : Sd := (sRet (gLc [2] (gSeq (gVar 0)) (gTN 2) (gOr (gTst (gBin eqD (gVar 1) (gC (.str "any")))) (gTst (gBin eqD (gBin ixD (gVar 2) (gC (.int 1))) (gVar 1)))) (gBin ixD (gVar 2) (gC (.int 0)))))
def f__law_names : List D → Option D := runV 3 g__law_names
abbrev s__law_value : Stmt := topS 27
abbrev N__law_value : List Str := ["state", "kind", "choice"]
theorem sc__law_value : FnScope N__law_value ["state", "kind"] (defScope s__law_value) := ⟨rfl, rfl, rfl, by decide +kernel, rfl, by decide +kernel, by decide +kernel⟩
def g__law_value : Sd := (sSeq (sIf (gTst (gBin eqD (gCallIO 0 f__law_digit (gCons (gC (.int 6)) gNil)) (gC (.int 0)))) (sRet (gC .none)) sNext)
  (sSeq (sIf (gTst (gBin eqD (gVar 1) (gC (.str "flag")))) (sRet (gBin eqD (gCallIO 0 f__law_digit (gCons (gC (.int 2)) gNil)) (gC (.int 1)))) sNext)
  (sSeq (sIf (gTst (gBin eqD (gVar 1) (gC (.str "whole")))) (sSeq (sSet 2 (gCallIO 0 f__law_digit (gCons (gC (.int 6)) gNil)))
  (sSeq (sIf (gTst (gBin ltD (gVar 2) (gC (.int 4)))) (sRet (gBin subD (gCallIO 0 f__law_digit (gCons (gC (.int 5)) gNil)) (gC (.int 1)))) sNext)
  (sSeq (sIf (gTst (gBin eqD (gVar 2) (gC (.int 4)))) (sRet (gBin subD (gCallIO 0 f__law_digit (gCons (gC (.int 2000)) gNil)) (gC (.int 1000)))) sNext)
  (sRet (gBin ixD (gApp mkLst (gCons (gC (.int 1000000000)) (gCons (gUn negD (gC (.int 1000000000))) (gCons (gC (.int 999999999)) gNil)))) (gCallIO 0 f__law_digit (gCons (gC (.int 3)) gNil))))))) sNext)
  (sRet (gBin ixD (gApp mkTup (gCons (gC (.str "")) (gCons (gC (.str "a")) (gCons (gC (.str "b")) (gCons (gC (.str "ab")) (gCons (gC (.str "B")) (gCons (gC (.str "a ")) (gCons (gC (.str "~")) (gCons (gC (.str "zz9")) gNil))))))))) (gCallIO 0 f__law_digit (gCons (gC (.int 8)) gNil)))))))
def f__law_value : D → List D → Option (D × D) := runIO 3 g__law_value
abbrev s__law_leaf : Stmt := topS 35
abbrev N__law_leaf : List Str := ["state", "fields", "kind", "names", "wanted"]
theorem sc__law_leaf : FnScope N__law_leaf ["state", "fields", "kind"] (defScope s__law_leaf) := ⟨rfl, rfl, rfl, by decide +kernel, rfl, by decide +kernel, by decide +kernel⟩
def g__law_leaf : Sd := (sSeq (sSet 3 (gApp f__law_names (gCons (gVar 1) (gCons (gVar 2) gNil))))
  (sSeq (sIf (gAnd (gTst (gBin gtD (gApp lenF (gCons (gVar 3) gNil)) (gC (.int 0)))) (gTst (gBin gtD (gCallIO 0 f__law_digit (gCons (gC (.int 3)) gNil)) (gC (.int 0))))) (sRet (gApp mkTup (gCons (gC (.str "column")) (gCons (gBin ixD (gVar 3) (gCallIO 0 f__law_digit (gCons (gApp lenF (gCons (gVar 3) gNil)) gNil))) gNil)))) sNext)
  (sSeq (sSet 4 (gVar 2))
  (sSeq (sIf (gTst (gBin eqD (gVar 2) (gC (.str "any")))) (sSet 4 (gBin ixD (gApp mkLst (gCons (gC (.str "flag")) (gCons (gC (.str "whole")) (gCons (gC (.str "text")) gNil)))) (gCallIO 0 f__law_digit (gCons (gC (.int 3)) gNil)))) sNext)
  (sRet (gApp mkTup (gCons (gC (.str "value")) (gCons (gCallIO 0 f__law_value (gCons (gVar 4) gNil)) gNil))))))))
def f__law_leaf : D → List D → Option (D × D) := runIO 5 g__law_leaf
abbrev s__law_expression : Stmt := topS 37
abbrev N__law_expression : List Str := ["state", "levels", "fields", "kind", "when", "first", "sign"]
theorem sc__law_expression : FnScope N__law_expression ["state", "levels", "fields", "kind"] (defScope s__law_expression) := ⟨rfl, rfl, rfl, by decide +kernel, rfl, by decide +kernel, by decide +kernel⟩
def g__law_expression (r__law_flag : D → List D → Option (D × D)) (r__law_expression : D → List D → Option (D × D)) : Sd := (sSeq (sIf (gTst (gBin eqD (gCallIO 0 f__law_digit (gCons (gC (.int 25)) gNil)) (gC (.int 0)))) (sSet 3 (gC (.str "any"))) sNext)
  (sSeq (sIf (gOr (gTst (gBin eqD (gVar 1) (gC (.int 0)))) (gOr (gTst (gBin eqD (gIxB 0 (gC (.int 0))) (gC (.int 0)))) (gTst (gBin eqD (gCallIO 0 f__law_digit (gCons (gC (.int 7)) gNil)) (gC (.int 0)))))) (sRet (gCallIO 0 f__law_leaf (gCons (gVar 2) (gCons (gVar 3) gNil)))) sNext)
  (sSeq (sIf (gOr (gTst (gBin eqD (gCallIO 0 f__law_digit (gCons (gC (.int 5)) gNil)) (gC (.int 0)))) (gOr (gTst (gBin eqD (gVar 3) (gC (.str "text")))) (gTst (gBin eqD (gVar 3) (gC (.str "any")))))) (sSeq (sSet 4 (gCallIO 0 r__law_expression (gCons (gBin subD (gVar 1) (gC (.int 1))) (gCons (gVar 2) (gCons (gC (.str "flag")) gNil)))))
  (sSeq (sSet 5 (gCallIO 0 r__law_expression (gCons (gBin subD (gVar 1) (gC (.int 1))) (gCons (gVar 2) (gCons (gVar 3) gNil)))))
  (sRet (gApp mkTup (gCons (gC (.str "pick")) (gCons (gVar 4) (gCons (gVar 5) (gCons (gCallIO 0 r__law_expression (gCons (gBin subD (gVar 1) (gC (.int 1))) (gCons (gVar 2) (gCons (gVar 3) gNil)))) gNil)))))))) sNext)
  (sSeq (sIf (gTst (gBin eqD (gVar 3) (gC (.str "flag")))) (sRet (gCallIO 0 r__law_flag (gCons (gBin subD (gVar 1) (gC (.int 1))) (gCons (gVar 2) gNil)))) sNext)
  (sSeq (sIf (gTst (gBin eqD (gCallIO 0 f__law_digit (gCons (gC (.int 5)) gNil)) (gC (.int 0)))) (sRet (gApp mkTup (gCons (gC (.str "length")) (gCons (gCallIO 0 r__law_expression (gCons (gBin subD (gVar 1) (gC (.int 1))) (gCons (gVar 2) (gCons (gC (.str "text")) gNil)))) gNil)))) sNext)
  (sSeq (sSet 5 (gCallIO 0 r__law_expression (gCons (gBin subD (gVar 1) (gC (.int 1))) (gCons (gVar 2) (gCons (gC (.str "whole")) gNil)))))
  (sSeq (sSet 6 (gBin ixD (gApp mkLst (gCons (gC (.str "+")) (gCons (gC (.str "-")) (gCons (gC (.str "*")) (gCons (gC (.str "/")) gNil))))) (gCallIO 0 f__law_digit (gCons (gC (.int 4)) gNil))))
  (sRet (gApp mkTup (gCons (gC (.str "binary")) (gCons (gVar 6) (gCons (gVar 5) (gCons (gCallIO 0 r__law_expression (gCons (gBin subD (gVar 1) (gC (.int 1))) (gCons (gVar 2) (gCons (gC (.str "whole")) gNil)))) gNil)))))))))))))
def fuel__law_flag : Nat → (D → List D → Option (D × D)) × (D → List D → Option (D × D))
  | 0 => (runIO 7 sFail, runIO 7 sFail)
  | n + 1 => (runIO 7 (g__law_flag (fuel__law_flag n).1 (fuel__law_flag n).2), runIO 7 (g__law_expression (fuel__law_flag n).1 (fuel__law_flag n).2))
def f__law_expression : D → List D → Option (D × D) := (fuel__law_flag 11).2
abbrev s__law_four : Stmt := topS 33
abbrev N__law_four : List Str := ["state", "kinds", "name"]
theorem sc__law_four : FnScope N__law_four ["state"] (defScope s__law_four) := ⟨rfl, rfl, rfl, by decide +kernel, rfl, by decide +kernel, by decide +kernel⟩
def g__law_four : Sd := (sSeq (sSet 1 (gApp mkLst (gCons (gC (.str "flag")) (gCons (gC (.str "whole")) (gCons (gC (.str "text")) gNil)))))
  (sRet (gApp tupF (gCons (gLc [2] (gSeq (gSl (gApp mkLst (gCons (gC (.str "a")) (gCons (gC (.str "b")) (gCons (gC (.str "c")) (gCons (gC (.str "d")) gNil))))) gNoP (gPart (gBin addD (gC (.int 2)) (gCallIO 0 f__law_digit (gCons (gC (.int 3)) gNil)))))) (gTN 2) gTrue (gApp mkTup (gCons (gVar 2) (gCons (gBin ixD (gVar 1) (gCallIO 0 f__law_digit (gCons (gC (.int 3)) gNil))) gNil)))) gNil))))
def f__law_four : D → List D → Option (D × D) := runIO 3 g__law_four
abbrev s__law_row : Stmt := topS 28
abbrev N__law_row : List Str := ["state", "fields", "field"]
theorem sc__law_row : FnScope N__law_row ["state", "fields"] (defScope s__law_row) := ⟨rfl, rfl, rfl, by decide +kernel, rfl, by decide +kernel, by decide +kernel⟩
def g__law_row : Sd := (sRet (gApp tupF (gCons (gLc [2] (gSeq (gVar 1)) (gTN 2) gTrue (gCallIO 0 f__law_value (gCons (gBin ixD (gVar 2) (gC (.int 1))) gNil))) gNil)))
def f__law_row : D → List D → Option (D × D) := runIO 3 g__law_row
abbrev s__law_start : Stmt := topS 25
abbrev N__law_start : List Str := ["cell", "k", "prime", "mixed", "number", "turn"]
theorem sc__law_start : FnScope N__law_start ["cell", "k"] (defScope s__law_start) := ⟨rfl, rfl, rfl, by decide +kernel, rfl, by decide +kernel, by decide +kernel⟩
def g__law_start : Sd := (sSeq (sSet 2 (gC (.int 618970019642690137449562111)))
  (sSeq (sIf (gTst (gChain ltD ltD (gUn negD (gC (.int 1000000000000000000))) (gVar 0) (gC (.int 1000000000000000000)))) (sSeq (sSet 3 (gBin modD (gApp intF (gCons (gBin addD (gBin mulS (gVar 0) (gC (.int 2654435761))) (gBin mulS (gBin addD (gVar 1) (gC (.int 1))) (gC (.int 6700417)))) gNil)) (gVar 2)))
  (sSeq (sSet 4 (gC (.int 0)))
  (sSeq (sFor (gRng1 (gCons (gC (.int 4)) gNil)) (gTN 5)
  (sSeq (sSet 3 (gBin modD (gApp intF (gCons (gBin addD (gBin addD (gBin addD (gBin mulD (gVar 3) (gVar 3)) (gBin mulD (gC (.int 7)) (gVar 3))) (gVar 1)) (gVar 5)) gNil)) (gVar 2)))
  (sSet 4 (gBin addD (gBin mulD (gVar 4) (gVar 2)) (gVar 3)))))
  (sRof (gApp mkLst (gCons (gVar 4) gNil)))))) sNext)
  (sRof (gApp mkLst (gCons (gApp absF (gCons (gVar 0) gNil)) gNil)))))
def f__law_start : List D → Option D := runF 6 g__law_start
abbrev s_column_index : Stmt := topS 10
abbrev N_column_index : List Str := ["fields", "name", "index", "field"]
theorem sc_column_index : FnScope N_column_index ["fields", "name"] (defScope s_column_index) := ⟨rfl, rfl, rfl, by decide +kernel, rfl, by decide +kernel, by decide +kernel⟩
def g_column_index : Sd := (sSeq (sFor (gEnum (gCons (gVar 0) gNil)) (gTTup 2 (gTCons (gTN 2) (gTCons (gTN 3) gTNil)))
  (sIf (gTst (gBin eqD (gBin ixD (gVar 3) (gC (.int 0))) (gVar 1))) (sRet (gVar 2)) sNext))
  (sRet (gC .none)))
def f_column_index : List D → Option D := runV 4 g_column_index
abbrev s_parts_of : Stmt := topS 1
abbrev N_parts_of : List Str := ["expression"]
theorem sc_parts_of : FnScope N_parts_of ["expression"] (defScope s_parts_of) := ⟨rfl, rfl, rfl, by decide +kernel, rfl, by decide +kernel, by decide +kernel⟩
def g_parts_of : Sd := (sSeq (sIf (gOr (gTst (gBin eqD (gBin ixD (gVar 0) (gC (.int 0))) (gC (.str "column")))) (gTst (gBin eqD (gBin ixD (gVar 0) (gC (.int 0))) (gC (.str "value"))))) (sRet (gApp mkLst gNil)) sNext)
  (sSeq (sIf (gTst (gBin eqD (gBin ixD (gVar 0) (gC (.int 0))) (gC (.str "binary")))) (sRet (gApp mkLst (gCons (gBin ixD (gVar 0) (gC (.int 2))) (gCons (gBin ixD (gVar 0) (gC (.int 3))) gNil)))) sNext)
  (sRet (gApp lstF (gCons (gSl (gVar 0) (gPart (gC (.int 1))) gNoP) gNil)))))
def f_parts_of : List D → Option D := runV 1 g_parts_of
abbrev s_agree : Stmt := topS 12
abbrev N_agree : List Str := ["first", "second"]
theorem sc_agree : FnScope N_agree ["first", "second"] (defScope s_agree) := ⟨rfl, rfl, rfl, by decide +kernel, rfl, by decide +kernel, by decide +kernel⟩
def g_agree : Sd := (sRet (gOrV (gBin isD (gVar 0) (gC .none)) (gOrV (gBin isD (gVar 1) (gC .none)) (gBin eqD (gVar 0) (gVar 1)))))
def f_agree : List D → Option D := runV 2 g_agree
abbrev s_want : Stmt := topS 13
abbrev N_want : List Str := ["types", "wanted", "found"]
theorem sc_want : FnScope N_want ["types", "wanted"] (defScope s_want) := ⟨rfl, rfl, rfl, by decide +kernel, rfl, by decide +kernel, by decide +kernel⟩
def g_want : Sx := (xFor (gSeq (gVar 0)) (gTN 2)
  (xIf (xOk (gNot (gTru (gApp f_agree (gCons (gVar 2) (gCons (gVar 1) gNil)))))) (xRaise "InvalidOperator" (gC (.str "types differ"))) (xOk sNext)))
def f_want : List D → Option (D ⊕ Xc) := runX 3 g_want
abbrev s_type_of_binary : Stmt := topS 14
abbrev N_type_of_binary : List Str := ["sign", "types"]
theorem sc_type_of_binary : FnScope N_type_of_binary ["sign", "types"] (defScope s_type_of_binary) := ⟨rfl, rfl, rfl, by decide +kernel, rfl, by decide +kernel, by decide +kernel⟩
def g_type_of_binary : Sx := (xSeq (xIf (xOk (gTst (gBin inD (gVar 0) (gApp mkTup (gCons (gC (.str "+")) (gCons (gC (.str "-")) (gCons (gC (.str "*")) (gCons (gC (.str "/")) gNil)))))))) (xSeq (xDrop (xCall f_want (xOk (gCons (gVar 1) (gCons (gC (.str "whole")) gNil)))))
  (xOk (sRet (gC (.str "whole"))))) (xOk sNext))
  (xSeq (xIf (xOk (gTst (gBin inD (gVar 0) (gApp mkTup (gCons (gC (.str "and")) (gCons (gC (.str "or")) gNil)))))) (xSeq (xDrop (xCall f_want (xOk (gCons (gVar 1) (gCons (gC (.str "flag")) gNil)))))
  (xOk (sRet (gC (.str "flag"))))) (xOk sNext))
  (xSeq (xDrop (xCall f_want (xOk (gCons (gSl (gVar 1) gNoP (gPart (gC (.int 1)))) (gCons (gBin ixD (gVar 1) (gC (.int 1))) gNil)))))
  (xOk (sRet (gC (.str "flag")))))))
def f_type_of_binary : List D → Option (D ⊕ Xc) := runX 2 g_type_of_binary
abbrev s_type_of_value : Stmt := topS 9
abbrev N_type_of_value : List Str := ["value"]
theorem sc_type_of_value : FnScope N_type_of_value ["value"] (defScope s_type_of_value) := ⟨rfl, rfl, rfl, by decide +kernel, rfl, by decide +kernel, by decide +kernel⟩
def g_type_of_value : Sd := (sSeq (sIf (gTst (gBin isD (gVar 0) (gC .none))) (sRet (gC .none)) sNext)
  (sSeq (sIf (gTru (gApp (isiF "bool") (gCons (gVar 0) gNil))) (sRet (gC (.str "flag"))) sNext)
  (sSeq (sIf (gTru (gApp (isiF "int") (gCons (gVar 0) gNil))) (sRet (gC (.str "whole"))) sNext)
  (sRet (gC (.str "text"))))))
def f_type_of_value : List D → Option D := runV 1 g_type_of_value
abbrev s_type_of : Stmt := topS 15
abbrev N_type_of : List Str := ["expression", "fields", "word", "index", "types", "part"]
theorem sc_type_of : FnScope N_type_of ["expression", "fields"] (defScope s_type_of) := ⟨rfl, rfl, rfl, by decide +kernel, rfl, by decide +kernel, by decide +kernel⟩
def g_type_of (r_type_of : List D → Option (D ⊕ Xc)) : Sx := (xSeq (xOk (sSet 2 (gBin ixD (gVar 0) (gC (.int 0)))))
  (xSeq (xIf (xOk (gTst (gBin eqD (gVar 2) (gC (.str "column"))))) (xSeq (xOk (sSet 3 (gApp f_column_index (gCons (gVar 1) (gCons (gBin ixD (gVar 0) (gC (.int 1))) gNil)))))
  (xSeq (xIf (xOk (gTst (gBin isD (gVar 3) (gC .none)))) (xRaise "InvalidOperator" (gBin addD (gC (.str "there is no column ")) (gBin ixD (gVar 0) (gC (.int 1))))) (xOk sNext))
  (xOk (sRet (gBin ixD (gBin ixD (gVar 1) (gVar 3)) (gC (.int 1))))))) (xOk sNext))
  (xSeq (xOk (sIf (gTst (gBin eqD (gVar 2) (gC (.str "value")))) (sRet (gApp f_type_of_value (gCons (gBin ixD (gVar 0) (gC (.int 1))) gNil))) sNext))
  (xSeq (xOwn 4 (xLc [5] (gSeq (gApp f_parts_of (gCons (gVar 0) gNil))) (gTN 5) gTrue (xCall r_type_of (xOk (gCons (gVar 5) (gCons (gVar 1) gNil))))))
  (xSeq (xIf (xOk (gTst (gBin eqD (gVar 2) (gC (.str "binary"))))) (xRet (xCall f_type_of_binary (xOk (gCons (gBin ixD (gVar 0) (gC (.int 1))) (gCons (gFrz 4) gNil))))) (xOk sNext))
  (xSeq (xIf (xOk (gTst (gBin eqD (gVar 2) (gC (.str "pick"))))) (xSeq (xDrop (xCall f_want (xOk (gCons (gSl (gFrz 4) gNoP (gPart (gC (.int 1)))) (gCons (gC (.str "flag")) gNil)))))
  (xSeq (xDrop (xCall f_want (xOk (gCons (gSl (gFrz 4) (gPart (gC (.int 1))) (gPart (gC (.int 2)))) (gCons (gIxB 4 (gC (.int 2))) gNil)))))
  (xOk (sRet (gIfE (gTst (gBin isD (gIxB 4 (gC (.int 1))) (gC .none))) (gIxB 4 (gC (.int 2))) (gIxB 4 (gC (.int 1)))))))) (xOk sNext))
  (xSeq (xIf (xOk (gTst (gBin eqD (gVar 2) (gC (.str "not"))))) (xSeq (xDrop (xCall f_want (xOk (gCons (gFrz 4) (gCons (gC (.str "flag")) gNil)))))
  (xOk (sRet (gC (.str "flag"))))) (xOk sNext))
  (xSeq (xIf (xOk (gTst (gBin eqD (gVar 2) (gC (.str "length"))))) (xSeq (xDrop (xCall f_want (xOk (gCons (gFrz 4) (gCons (gC (.str "text")) gNil)))))
  (xOk (sRet (gC (.str "whole"))))) (xOk sNext))
  (xOk (sRet (gC (.str "flag"))))))))))))
def fuel_type_of : Nat → (List D → Option (D ⊕ Xc))
  | 0 => (runX 6 xFail)
  | n + 1 => (runX 6 (g_type_of (fuel_type_of n)))
def f_type_of : List D → Option (D ⊕ Xc) := (fuel_type_of 9)
abbrev s__law_typed : Stmt := topS 38
abbrev N__law_typed : List Str := ["expression", "fields"]
theorem sc__law_typed : FnScope N__law_typed ["expression", "fields"] (defScope s__law_typed) := ⟨rfl, rfl, rfl, by decide +kernel, rfl, by decide +kernel, by decide +kernel⟩
def g__law_typed : Sd := (noX (xTry (hL [("InvalidOperator", true, fun m => ((sRet (gApp mkTup (gCons (gC .none) (gCons (gC (.bool false)) gNil))))))]) (xRet (xApp mkTup (xCons (xCall f_type_of (xOk (gCons (gVar 0) (gCons (gVar 1) gNil)))) (xCons (xOk (gC (.bool true))) (xOk gNil))))) (gL [("InvalidOperator", true, fun m => ((sRet (gApp mkTup (gCons (gC .none) (gCons (gC (.bool false)) gNil))))))])))
def f__law_typed : List D → Option D := runV 2 g__law_typed
abbrev s_columns_of : Stmt := topS 2
abbrev N_columns_of : List Str := ["expression", "found", "part", "name"]
theorem sc_columns_of : FnScope N_columns_of ["expression"] (defScope s_columns_of) := ⟨rfl, rfl, rfl, by decide +kernel, rfl, by decide +kernel, by decide +kernel⟩
def g_columns_of (r_columns_of : List D → Option D) : Sd := (sSeq (sIf (gTst (gBin eqD (gBin ixD (gVar 0) (gC (.int 0))) (gC (.str "column")))) (sRet (gApp mkLst (gCons (gBin ixD (gVar 0) (gC (.int 1))) gNil))) sNext)
  (sSeq (sOwn 1 (gApp mkLst gNil))
  (sSeq (sFor (gSeq (gApp f_parts_of (gCons (gVar 0) gNil))) (gTN 2)
  (sExt 1 (gLc [3] (gSeq (gApp r_columns_of (gCons (gVar 2) gNil))) (gTN 3) (gTst (gInB true 1 (gVar 3))) (gVar 3))))
  (sRet (gFrz 1)))))
def fuel_columns_of : Nat → (List D → Option D)
  | 0 => (runV 4 sFail)
  | n + 1 => (runV 4 (g_columns_of (fuel_columns_of n)))
def f_columns_of : List D → Option D := (fuel_columns_of 9)
abbrev s_bounded : Stmt := topS 19
abbrev N_bounded : List Str := ["number"]
theorem sc_bounded : FnScope N_bounded ["number"] (defScope s_bounded) := ⟨rfl, rfl, rfl, by decide +kernel, rfl, by decide +kernel, by decide +kernel⟩
def g_bounded : Sd := (sSeq (sIf (gTst (gBin gtD (gApp absF (gCons (gVar 0) gNil)) (gC (.int 1000000000)))) (sRet (gC .none)) sNext)
  (sRet (gVar 0)))
def f_bounded : List D → Option D := runV 1 g_bounded
abbrev s_value_order : Stmt := topS 17
abbrev N_value_order : List Str := ["value"]
theorem sc_value_order : FnScope N_value_order ["value"] (defScope s_value_order) := ⟨rfl, rfl, rfl, by decide +kernel, rfl, by decide +kernel, by decide +kernel⟩
def g_value_order : Sd := (sSeq (sIf (gTst (gBin isD (gVar 0) (gC .none))) (sRet (gApp mkTup (gCons (gC (.int 0)) (gCons (gC (.int 0)) gNil)))) sNext)
  (sSeq (sIf (gTru (gApp (isiF "bool") (gCons (gVar 0) gNil))) (sRet (gApp mkTup (gCons (gC (.int 1)) (gCons (gApp intF (gCons (gVar 0) gNil)) gNil)))) sNext)
  (sSeq (sIf (gTru (gApp (isiF "int") (gCons (gVar 0) gNil))) (sRet (gApp mkTup (gCons (gC (.int 2)) (gCons (gVar 0) gNil)))) sNext)
  (sRet (gApp mkTup (gCons (gC (.int 3)) (gCons (gVar 0) gNil)))))))
def f_value_order : List D → Option D := runV 1 g_value_order
abbrev s_reckon : Stmt := topS 20
abbrev N_reckon : List Str := ["sign", "first", "second"]
theorem sc_reckon : FnScope N_reckon ["sign", "first", "second"] (defScope s_reckon) := ⟨rfl, rfl, rfl, by decide +kernel, rfl, by decide +kernel, by decide +kernel⟩
def g_reckon : Sd := (sSeq (sIf (gTst (gBin eqD (gVar 0) (gC (.str "+")))) (sRet (gApp f_bounded (gCons (gBin addD (gVar 1) (gVar 2)) gNil))) sNext)
  (sSeq (sIf (gTst (gBin eqD (gVar 0) (gC (.str "-")))) (sRet (gApp f_bounded (gCons (gBin subD (gVar 1) (gVar 2)) gNil))) sNext)
  (sSeq (sIf (gTst (gBin eqD (gVar 0) (gC (.str "*")))) (sRet (gApp f_bounded (gCons (gBin mulD (gVar 1) (gVar 2)) gNil))) sNext)
  (sSeq (sIf (gTst (gBin eqD (gVar 0) (gC (.str "/")))) (sSeq (sIf (gTst (gBin eqD (gVar 2) (gC (.int 0)))) (sRet (gC .none)) sNext)
  (sRet (gApp f_bounded (gCons (gBin fdivE (gVar 1) (gVar 2)) gNil)))) sNext)
  (sSeq (sIf (gTst (gBin eqD (gVar 0) (gC (.str "==")))) (sRet (gBin eqD (gApp f_value_order (gCons (gVar 1) gNil)) (gApp f_value_order (gCons (gVar 2) gNil)))) sNext)
  (sSeq (sIf (gTst (gBin eqD (gVar 0) (gC (.str "<")))) (sRet (gBin ltD (gApp f_value_order (gCons (gVar 1) gNil)) (gApp f_value_order (gCons (gVar 2) gNil)))) sNext)
  (sRet (gBin leF (gApp f_value_order (gCons (gVar 1) gNil)) (gApp f_value_order (gCons (gVar 2) gNil))))))))))
def f_reckon : List D → Option D := runV 3 g_reckon
abbrev s_evaluate_binary : Stmt := topS 21
abbrev N_evaluate_binary : List Str := ["expression", "fields", "row", "sign", "first", "second", "decisive"]
theorem sc_evaluate_binary : FnScope N_evaluate_binary ["expression", "fields", "row"] (defScope s_evaluate_binary) := ⟨rfl, rfl, rfl, by decide +kernel, rfl, by decide +kernel, by decide +kernel⟩
def g_evaluate_binary (r_evaluate : List D → Option D) (r_evaluate_binary : List D → Option D) : Sd := (sSeq (sSet 3 (gBin ixD (gVar 0) (gC (.int 1))))
  (sSeq (sSet 4 (gApp r_evaluate (gCons (gBin ixD (gVar 0) (gC (.int 2))) (gCons (gVar 1) (gCons (gVar 2) gNil)))))
  (sSeq (sSet 5 (gApp r_evaluate (gCons (gBin ixD (gVar 0) (gC (.int 3))) (gCons (gVar 1) (gCons (gVar 2) gNil)))))
  (sSeq (sIf (gOr (gTst (gBin eqD (gVar 3) (gC (.str "and")))) (gTst (gBin eqD (gVar 3) (gC (.str "or"))))) (sSeq (sSet 6 (gBin eqD (gVar 3) (gC (.str "or"))))
  (sSeq (sIf (gOr (gTst (gBin eqD (gVar 4) (gVar 6))) (gTst (gBin eqD (gVar 5) (gVar 6)))) (sRet (gVar 6)) sNext)
  (sSeq (sIf (gOr (gTst (gBin isD (gVar 4) (gC .none))) (gTst (gBin isD (gVar 5) (gC .none)))) (sRet (gC .none)) sNext)
  (sRet (gNotV (gVar 6)))))) sNext)
  (sSeq (sIf (gOr (gTst (gBin isD (gVar 4) (gC .none))) (gTst (gBin isD (gVar 5) (gC .none)))) (sRet (gC .none)) sNext)
  (sRet (gApp f_reckon (gCons (gVar 3) (gCons (gVar 4) (gCons (gVar 5) gNil))))))))))
abbrev s_evaluate : Stmt := topS 22
abbrev N_evaluate : List Str := ["expression", "fields", "row", "word", "first"]
theorem sc_evaluate : FnScope N_evaluate ["expression", "fields", "row"] (defScope s_evaluate) := ⟨rfl, rfl, rfl, by decide +kernel, rfl, by decide +kernel, by decide +kernel⟩
def g_evaluate (r_evaluate : List D → Option D) (r_evaluate_binary : List D → Option D) : Sd := (sSeq (sSet 3 (gBin ixD (gVar 0) (gC (.int 0))))
  (sSeq (sIf (gTst (gBin eqD (gVar 3) (gC (.str "column")))) (sRet (gBin ixD (gVar 2) (gApp f_column_index (gCons (gVar 1) (gCons (gBin ixD (gVar 0) (gC (.int 1))) gNil))))) sNext)
  (sSeq (sIf (gTst (gBin eqD (gVar 3) (gC (.str "value")))) (sRet (gBin ixD (gVar 0) (gC (.int 1)))) sNext)
  (sSeq (sIf (gTst (gBin eqD (gVar 3) (gC (.str "binary")))) (sRet (gApp r_evaluate_binary (gCons (gVar 0) (gCons (gVar 1) (gCons (gVar 2) gNil))))) sNext)
  (sSeq (sSet 4 (gApp r_evaluate (gCons (gBin ixD (gVar 0) (gC (.int 1))) (gCons (gVar 1) (gCons (gVar 2) gNil)))))
  (sSeq (sIf (gTst (gBin eqD (gVar 3) (gC (.str "null")))) (sRet (gBin isD (gVar 4) (gC .none))) sNext)
  (sSeq (sIf (gTst (gBin eqD (gVar 3) (gC (.str "pick")))) (sSeq (sIf (gTst (gBin isE (gVar 4) (gC (.bool true)))) (sRet (gApp r_evaluate (gCons (gBin ixD (gVar 0) (gC (.int 2))) (gCons (gVar 1) (gCons (gVar 2) gNil))))) sNext)
  (sRet (gApp r_evaluate (gCons (gBin ixD (gVar 0) (gC (.int 3))) (gCons (gVar 1) (gCons (gVar 2) gNil)))))) sNext)
  (sSeq (sIf (gTst (gBin isD (gVar 4) (gC .none))) (sRet (gC .none)) sNext)
  (sSeq (sIf (gTst (gBin eqD (gVar 3) (gC (.str "not")))) (sRet (gNotV (gVar 4))) sNext)
  (sRet (gApp lenF (gCons (gVar 4) gNil))))))))))))
def fuel_evaluate : Nat → (List D → Option D) × (List D → Option D)
  | 0 => (runV 5 sFail, runV 7 sFail)
  | n + 1 => (runV 5 (g_evaluate (fuel_evaluate n).1 (fuel_evaluate n).2), runV 7 (g_evaluate_binary (fuel_evaluate n).1 (fuel_evaluate n).2))
def f_evaluate : List D → Option D := (fuel_evaluate 15).1
abbrev s_substituted : Stmt := topS 3
abbrev N_substituted : List Str := ["expression", "mapping", "parts", "part"]
theorem sc_substituted : FnScope N_substituted ["expression", "mapping"] (defScope s_substituted) := ⟨rfl, rfl, rfl, by decide +kernel, rfl, by decide +kernel, by decide +kernel⟩
def g_substituted (r_substituted : List D → Option D) : Sd := (sSeq (sIf (gTst (gBin eqD (gBin ixD (gVar 0) (gC (.int 0))) (gC (.str "column")))) (sRet (gGetU (gVar 1) (gBin ixD (gVar 0) (gC (.int 1))) (gVar 0))) sNext)
  (sSeq (sIf (gTst (gBin eqD (gBin ixD (gVar 0) (gC (.int 0))) (gC (.str "value")))) (sRet (gVar 0)) sNext)
  (sSeq (sOwn 2 (gLc [3] (gSeq (gApp f_parts_of (gCons (gVar 0) gNil))) (gTN 3) gTrue (gApp r_substituted (gCons (gVar 3) (gCons (gVar 1) gNil)))))
  (sSeq (sIf (gTst (gBin eqD (gBin ixD (gVar 0) (gC (.int 0))) (gC (.str "binary")))) (sRet (gApp mkTup (gCons (gC (.str "binary")) (gCons (gBin ixD (gVar 0) (gC (.int 1))) (gCons (gIxB 2 (gC (.int 0))) (gCons (gIxB 2 (gC (.int 1))) gNil)))))) sNext)
  (sRet (gBin addD (gApp mkTup (gCons (gBin ixD (gVar 0) (gC (.int 0))) gNil)) (gApp tupF (gCons (gFrz 2) gNil))))))))
def fuel_substituted : Nat → (List D → Option D)
  | 0 => (runV 4 sFail)
  | n + 1 => (runV 4 (g_substituted (fuel_substituted n)))
def f_substituted : List D → Option D := (fuel_substituted 9)
abbrev s_law : Stmt := topS 40
abbrev N_law : List Str := ["script", "k", "state", "fields", "kind", "expression", "mapping", "field", "kept", "other", "fine", "j", "row", "values", "at", "value", "told", "due"]
theorem sc_law : FnScope N_law ["script"] (defScope s_law) := ⟨rfl, rfl, rfl, by decide +kernel, rfl, by decide +kernel, by decide +kernel⟩
def g_law : Sd := (sSeq (sFor (gRng1 (gCons (gApp minF (gCons (gC (.int 10)) (gCons (gApp maxF (gCons (gC (.int 1)) (gCons (gBin fdivD (gApp lenF (gCons (gVar 0) gNil)) (gC (.int 2))) gNil))) gNil))) gNil)) (gTN 1)
  (sSeq (sOwn 2 (gApp f__law_start (gCons (gApp f__law_cell (gCons (gVar 0) (gCons (gBin mulD (gC (.int 2)) (gVar 1)) gNil))) (gCons (gVar 1) gNil))))
  (sSeq (sSet 3 (gCallIO 2 f__law_four gNil))
  (sSeq (sSet 4 (gBin ixD (gApp mkLst (gCons (gC (.str "flag")) (gCons (gC (.str "whole")) (gCons (gC (.str "text")) (gCons (gC (.str "any")) gNil))))) (gCallIO 2 f__law_digit (gCons (gC (.int 4)) gNil))))
  (sSeq (sSet 5 (gCallIO 2 f__law_expression (gCons (gBin addD (gC (.int 1)) (gCallIO 2 f__law_digit (gCons (gC (.int 3)) gNil))) (gCons (gVar 3) (gCons (gVar 4) gNil)))))
  (sSeq (sIf (gTst (gBin neD (gApp f_columns_of (gCons (gVar 5) gNil)) (gApp f__law_columns (gCons (gVar 5) gNil)))) (sRet (gC (.bool false))) sNext)
  (sSeq (sOwn 2 (gApp f__law_start (gCons (gApp f__law_cell (gCons (gVar 0) (gCons (gBin addD (gBin mulD (gC (.int 2)) (gVar 1)) (gC (.int 1))) gNil))) (gCons (gVar 1) gNil))))
  (sSeq (sNewT 6)
  (sSeq (sFor (gSeq (gVar 3)) (gTN 7)
  (sIf (gTst (gBin gtD (gCallIO 2 f__law_digit (gCons (gC (.int 4)) gNil)) (gC (.int 0)))) (sSetT 6 (gCallIO 2 f__law_expression (gCons (gC (.int 2)) (gCons (gVar 3) (gCons (gBin ixD (gVar 7) (gC (.int 1))) gNil)))) (gBin ixD (gVar 7) (gC (.int 0)))) sNext))
  (sSeq (sSet 8 (gApp reprFU (gCons (gApp mkLst (gCons (gVar 5) (gCons (gFrzT 6) gNil))) gNil)))
  (sSeq (sSet 9 (gApp f_substituted (gCons (gVar 5) (gCons (gFrzT 6) gNil))))
  (sSeq (sIf (gOr (gTst (gBin neD (gApp f_substituted (gCons (gVar 5) (gCons (gC (.dict [(.none, .none)])) gNil))) (gVar 5))) (gTst (gBin neD (gApp reprFU (gCons (gApp mkLst (gCons (gVar 5) (gCons (gFrzT 6) gNil))) gNil)) (gVar 8)))) (sRet (gC (.bool false))) sNext)
  (sSeq (sIf (gNot (gTru (gBin ixD (gApp f__law_typed (gCons (gVar 5) (gCons (gVar 3) gNil))) (gC (.int 1))))) sCnt sNext)
  (sSeq (sOwn 10 (gLc [7] (gSeq (gVar 3)) (gTN 7) (gTst (gBin inU (gBin ixD (gVar 7) (gC (.int 0))) (gFrzT 6))) (gBin eqD (gApp f__law_typed (gCons (gBin ixU (gFrzT 6) (gBin ixD (gVar 7) (gC (.int 0)))) (gCons (gVar 3) gNil))) (gApp mkTup (gCons (gBin ixD (gVar 7) (gC (.int 1))) (gCons (gC (.bool true)) gNil))))))
  (sSeq (sIf (gTst (gInB false 10 (gC (.bool false)))) sCnt sNext)
  (sSeq (sIf (gNot (gTru (gBin ixD (gApp f__law_typed (gCons (gVar 9) (gCons (gVar 3) gNil))) (gC (.int 1))))) (sRet (gC (.bool false))) sNext)
  (sFor (gRng1 (gCons (gC (.int 4)) gNil)) (gTN 11)
  (sSeq (sSet 12 (gCallIO 2 f__law_row (gCons (gVar 3) gNil)))
  (sSeq (sOwn 13 (gApp mkLst gNil))
  (sSeq (sFor (gRng1 (gCons (gApp lenF (gCons (gVar 3) gNil)) gNil)) (gTN 14)
  (sSeq (sSet 15 (gBin ixD (gVar 12) (gVar 14)))
  (sSeq (sIf (gTst (gBin inU (gBin ixD (gBin ixD (gVar 3) (gVar 14)) (gC (.int 0))) (gFrzT 6))) (sSet 15 (gApp f_evaluate (gCons (gBin ixU (gFrzT 6) (gBin ixD (gBin ixD (gVar 3) (gVar 14)) (gC (.int 0)))) (gCons (gVar 3) (gCons (gVar 12) gNil))))) sNext)
  (sApp 13 (gVar 15)))))
  (sSeq (sSet 16 (gApp f_evaluate (gCons (gVar 9) (gCons (gVar 3) (gCons (gVar 12) gNil)))))
  (sSeq (sSet 17 (gApp f_evaluate (gCons (gVar 5) (gCons (gVar 3) (gCons (gApp tupF (gCons (gFrz 13) gNil)) gNil)))))
  (sIf (gOr (gTst (gBin neD (gApp f__law_rank (gCons (gVar 16) gNil)) (gApp f__law_rank (gCons (gVar 17) gNil)))) (gOr (gTru (gApp f__law_before (gCons (gVar 16) (gCons (gVar 17) gNil)))) (gTru (gApp f__law_before (gCons (gVar 17) (gCons (gVar 16) gNil)))))) (sRet (gC (.bool false))) sNext)))))))))))))))))))))))
  (sRet (gC (.bool true))))
def f_law : List D → Option D := runV 18 g_law
structure Txt (P : Program) (K : PySem.W.Frag) (mg : Str → Option Value) where
  a__law_rank : Addr
  d__law_rank : FuncData
  F__law_rank : Fun K "_law_rank" "_law_rank" s__law_rank a__law_rank d__law_rank
  m__law_rank : mg "_law_rank" = some (.ref a__law_rank)
  a__law_before : Addr
  d__law_before : FuncData
  F__law_before : Fun K "_law_before" "_law_before" s__law_before a__law_before d__law_before
  m__law_before : mg "_law_before" = some (.ref a__law_before)
  a__law_cell : Addr
  d__law_cell : FuncData
  F__law_cell : Fun K "_law_cell" "_law_cell" s__law_cell a__law_cell d__law_cell
  m__law_cell : mg "_law_cell" = some (.ref a__law_cell)
  a__law_columns : Addr
  d__law_columns : FuncData
  F__law_columns : Fun K "_law_columns" "_law_columns" s__law_columns a__law_columns d__law_columns
  m__law_columns : mg "_law_columns" = some (.ref a__law_columns)
  a__law_digit : Addr
  d__law_digit : FuncData
  F__law_digit : Fun K "_law_digit" "_law_digit" s__law_digit a__law_digit d__law_digit
  m__law_digit : mg "_law_digit" = some (.ref a__law_digit)
  a__law_flag : Addr
  d__law_flag : FuncData
  F__law_flag : Fun K "_law_flag" "_law_flag" s__law_flag a__law_flag d__law_flag
  m__law_flag : mg "_law_flag" = some (.ref a__law_flag)
  a__law_names : Addr
  d__law_names : FuncData
  F__law_names : Fun K "_law_names" "_law_names" s__law_names a__law_names d__law_names
  m__law_names : mg "_law_names" = some (.ref a__law_names)
  a__law_value : Addr
  d__law_value : FuncData
  F__law_value : Fun K "_law_value" "_law_value" s__law_value a__law_value d__law_value
  m__law_value : mg "_law_value" = some (.ref a__law_value)
  a__law_leaf : Addr
  d__law_leaf : FuncData
  F__law_leaf : Fun K "_law_leaf" "_law_leaf" s__law_leaf a__law_leaf d__law_leaf
  m__law_leaf : mg "_law_leaf" = some (.ref a__law_leaf)
  a__law_expression : Addr
  d__law_expression : FuncData
  F__law_expression : Fun K "_law_expression" "_law_expression" s__law_expression a__law_expression d__law_expression
  m__law_expression : mg "_law_expression" = some (.ref a__law_expression)
  a__law_four : Addr
  d__law_four : FuncData
  F__law_four : Fun K "_law_four" "_law_four" s__law_four a__law_four d__law_four
  m__law_four : mg "_law_four" = some (.ref a__law_four)
  a__law_row : Addr
  d__law_row : FuncData
  F__law_row : Fun K "_law_row" "_law_row" s__law_row a__law_row d__law_row
  m__law_row : mg "_law_row" = some (.ref a__law_row)
  a__law_start : Addr
  d__law_start : FuncData
  F__law_start : Fun K "_law_start" "_law_start" s__law_start a__law_start d__law_start
  m__law_start : mg "_law_start" = some (.ref a__law_start)
  a_column_index : Addr
  d_column_index : FuncData
  F_column_index : Fun K "column_index" "column_index" s_column_index a_column_index d_column_index
  m_column_index : mg "column_index" = some (.ref a_column_index)
  a_parts_of : Addr
  d_parts_of : FuncData
  F_parts_of : Fun K "parts_of" "parts_of" s_parts_of a_parts_of d_parts_of
  m_parts_of : mg "parts_of" = some (.ref a_parts_of)
  a_agree : Addr
  d_agree : FuncData
  F_agree : Fun K "agree" "agree" s_agree a_agree d_agree
  m_agree : mg "agree" = some (.ref a_agree)
  a_want : Addr
  d_want : FuncData
  F_want : Fun K "want" "want" s_want a_want d_want
  m_want : mg "want" = some (.ref a_want)
  a_type_of_binary : Addr
  d_type_of_binary : FuncData
  F_type_of_binary : Fun K "type_of_binary" "type_of_binary" s_type_of_binary a_type_of_binary d_type_of_binary
  m_type_of_binary : mg "type_of_binary" = some (.ref a_type_of_binary)
  a_type_of_value : Addr
  d_type_of_value : FuncData
  F_type_of_value : Fun K "type_of_value" "type_of_value" s_type_of_value a_type_of_value d_type_of_value
  m_type_of_value : mg "type_of_value" = some (.ref a_type_of_value)
  a_type_of : Addr
  d_type_of : FuncData
  F_type_of : Fun K "type_of" "type_of" s_type_of a_type_of d_type_of
  m_type_of : mg "type_of" = some (.ref a_type_of)
  a__law_typed : Addr
  d__law_typed : FuncData
  F__law_typed : Fun K "_law_typed" "_law_typed" s__law_typed a__law_typed d__law_typed
  m__law_typed : mg "_law_typed" = some (.ref a__law_typed)
  a_columns_of : Addr
  d_columns_of : FuncData
  F_columns_of : Fun K "columns_of" "columns_of" s_columns_of a_columns_of d_columns_of
  m_columns_of : mg "columns_of" = some (.ref a_columns_of)
  a_bounded : Addr
  d_bounded : FuncData
  F_bounded : Fun K "bounded" "bounded" s_bounded a_bounded d_bounded
  m_bounded : mg "bounded" = some (.ref a_bounded)
  a_value_order : Addr
  d_value_order : FuncData
  F_value_order : Fun K "value_order" "value_order" s_value_order a_value_order d_value_order
  m_value_order : mg "value_order" = some (.ref a_value_order)
  a_reckon : Addr
  d_reckon : FuncData
  F_reckon : Fun K "reckon" "reckon" s_reckon a_reckon d_reckon
  m_reckon : mg "reckon" = some (.ref a_reckon)
  a_evaluate_binary : Addr
  d_evaluate_binary : FuncData
  F_evaluate_binary : Fun K "evaluate_binary" "evaluate_binary" s_evaluate_binary a_evaluate_binary d_evaluate_binary
  m_evaluate_binary : mg "evaluate_binary" = some (.ref a_evaluate_binary)
  a_evaluate : Addr
  d_evaluate : FuncData
  F_evaluate : Fun K "evaluate" "evaluate" s_evaluate a_evaluate d_evaluate
  m_evaluate : mg "evaluate" = some (.ref a_evaluate)
  a_substituted : Addr
  d_substituted : FuncData
  F_substituted : Fun K "substituted" "substituted" s_substituted a_substituted d_substituted
  m_substituted : mg "substituted" = some (.ref a_substituted)
  a_law : Addr
  d_law : FuncData
  F_law : Fun K "law" "law" s_law a_law d_law
  m_law : mg "law" = some (.ref a_law)
  z_abs : mg "abs" = none
  z_bool : mg "bool" = none
  z_enumerate : mg "enumerate" = none
  z_int : mg "int" = none
  z_isinstance : mg "isinstance" = none
  z_len : mg "len" = none
  z_list : mg "list" = none
  z_max : mg "max" = none
  z_min : mg "min" = none
  z_range : mg "range" = none
  z_repr : mg "repr" = none
  z_tuple : mg "tuple" = none
  c_MOST_NUMBER : ∃ t, mg "MOST_NUMBER" = some (.int 1000000000 t)
  CT : Addr
  fI : Addr
  C_InvalidOperator : Addr
  X_InvalidOperator : Tw.TdTxt P K mg "InvalidOperator" C_InvalidOperator CT fI
  ex_InvalidOperator_InvalidOperator : PySem.W.exmOne K (.ref C_InvalidOperator) (.ref C_InvalidOperator) = some true
section
variable {P : Program} {w : World} {K : PySem.W.Frag} {mg : Str → Option Value} {base : Heap} (T : Txt P K mg)
theorem bd__law_rank : Binds K T.d__law_rank ["value"] [] := T.F__law_rank.binds (ps := ["value"]) fun _ _ _ _ _ _ us hl => match us, hl with | [_], _ => rfl
theorem ok__law_rank : FnOk P w K mg base CX0 1 T.a__law_rank T.d__law_rank ["value"] (spV ⟨K, P, w⟩ 1 f__law_rank) := fn_V (N := N__law_rank) (g := g__law_rank) T.F__law_rank sc__law_rank fun cdv A outer s H E hr =>
  (dss_cons (ds_if (dt_cmp op_isD (dv 0) de_non (nomark _)) (dss_one (ds_ret de_int)) dss_nil)
    (dss_cons (ds_if (dt_tru (de_isi T.z_isinstance (by rfl) (by rfl) T.z_bool bt_bool (dv 0))) (dss_one (ds_ret (de_bin op_addD de_int (de_callTy call_intD (by rfl) T.z_int bt_int (da_cs (dv 0) da_nl))))) dss_nil)
    (dss_cons (ds_if (dt_tru (de_isi T.z_isinstance (by rfl) (by rfl) T.z_int bt_int (dv 0))) (dss_one (ds_ret de_int)) dss_nil)
    (dss_one (ds_ret de_int)))))
theorem bd__law_before : Binds K T.d__law_before ["first", "second"] [] := T.F__law_before.binds (ps := ["first", "second"]) fun _ _ _ _ _ _ us hl => match us, hl with | [_, _], _ => rfl
theorem ok__law_before : FnOk P w K mg base CX0 2 T.a__law_before T.d__law_before ["first", "second"] (spV ⟨K, P, w⟩ 2 f__law_before) := fn_V (N := N__law_before) (g := g__law_before) T.F__law_before sc__law_before fun cdv A outer s H E hr =>
  (dss_cons (ds_if (dt_cmp (op_neD' hr.units) (de_call (ok__law_rank T) (hr.mono (by decide)) (by rfl) T.m__law_rank T.F__law_rank.kp (bd__law_rank T) (by rfl) (da_cs (dv 0) da_nl) (len_cons len_nil)) (de_call (ok__law_rank T) (hr.mono (by decide)) (by rfl) T.m__law_rank T.F__law_rank.kp (bd__law_rank T) (by rfl) (da_cs (dv 1) da_nl) (len_cons len_nil)) (nomark _)) (dss_one (ds_ret (de_cmp (op_ltD hr.units) (de_call (ok__law_rank T) (hr.mono (by decide)) (by rfl) T.m__law_rank T.F__law_rank.kp (bd__law_rank T) (by rfl) (da_cs (dv 0) da_nl) (len_cons len_nil)) (de_call (ok__law_rank T) (hr.mono (by decide)) (by rfl) T.m__law_rank T.F__law_rank.kp (bd__law_rank T) (by rfl) (da_cs (dv 1) da_nl) (len_cons len_nil)) (nomark _)))) dss_nil)
    (dss_cons (ds_if (dt_cmp (op_ltD hr.units) (de_call (ok__law_rank T) (hr.mono (by decide)) (by rfl) T.m__law_rank T.F__law_rank.kp (bd__law_rank T) (by rfl) (da_cs (dv 0) da_nl) (len_cons len_nil)) de_int (nomark _)) (dss_one (ds_ret de_bl)) dss_nil)
    (dss_one (ds_ret (de_cmp (op_ltD hr.units) (dv 0) (dv 1) (nomark _))))))
theorem bd__law_cell : Binds K T.d__law_cell ["script", "k"] [] := T.F__law_cell.binds (ps := ["script", "k"]) fun _ _ _ _ _ _ us hl => match us, hl with | [_, _], _ => rfl
theorem ok__law_cell : FnOk P w K mg base CX0 1 T.a__law_cell T.d__law_cell ["script", "k"] (spV ⟨K, P, w⟩ 2 f__law_cell) := fn_V (N := N__law_cell) (g := g__law_cell) T.F__law_cell sc__law_cell fun cdv A outer s H E hr =>
  (dss_cons (ds_if (dt_cmp (op_ltD hr.units) (dv 1) (de_callB call_lenD (by rfl) T.z_len bb_len (da_cs (dv 0) da_nl)) (nomark _)) (dss_one (ds_ret (de_ix ix_D (dv 0) (dv 1) (fun _ _ => rfl)))) dss_nil)
    (dss_one (ds_ret de_int)))
theorem bd__law_columns : Binds K T.d__law_columns ["expression"] [] := T.F__law_columns.binds (ps := ["expression"]) fun _ _ _ _ _ _ us hl => match us, hl with | [_], _ => rfl
theorem okr__law_columns : ∀ n : Nat, FnOk P w K mg base CX0 (1 + n) T.a__law_columns T.d__law_columns ["expression"] (spV ⟨K, P, w⟩ 1 (fuel__law_columns n))
  | 0 => fn_V (N := N__law_columns) (g := sFail) T.F__law_columns sc__law_columns fun cdv A outer s H E hr => dss_fail
  | n + 1 =>
    have ih := okr__law_columns n
    fn_V (N := N__law_columns) (g := g__law_columns (fuel__law_columns n)) T.F__law_columns sc__law_columns fun cdv A outer s H E hr0 =>
  have hr : Room (1 + n) _ := hr0
  (dss_cons (ds_if (dt_cmp (op_eqD' hr.units) (de_ix ix_D (dv 0) de_int (fun _ _ => rfl)) de_str (nomark _)) (dss_one (ds_ret (df_de (df_lst (da_cs (de_ix ix_D (dv 0) de_int (fun _ _ => rfl)) da_nl))))) dss_nil)
    (dss_cons (ds_if (dt_cmp (op_eqD' hr.units) (de_ix ix_D (dv 0) de_int (fun _ _ => rfl)) de_str (nomark _)) (dss_one (ds_ret (df_de (df_lst da_nl)))) dss_nil)
    (dss_cons (ds_set (i := 1) sc__law_columns.nd rfl (by first | exact .inr rfl | exact .inl rfl) (df_de (df_lst da_nl)))
    (dss_cons (ds_for PassesOwn.never rfl (di_seq (de_slice (dv 0) (do_some de_int) do_none)) (dg_name (i := 2) sc__law_columns.nd rfl (.inl rfl)) (dss_one (ds_if (dt_tru (de_isi T.z_isinstance (by rfl) (by rfl) T.z_tuple bt_tuple (dv 2))) (dss_one (ds_set (i := 1) sc__law_columns.nd rfl (by first | exact .inr rfl | exact .inl rfl) (de_bin op_addD (dv 1) (df_de (df_lc (pe_lc (own := [("name", 3)]) (by rfl) sc__law_columns.nd (di_seq (de_call (ih) (hr.mono (by omega)) (by rfl) T.m__law_columns T.F__law_columns.kp (bd__law_columns T) (by rfl) (da_cs (dv 2) da_nl) (len_cons len_nil))) (blkOk_by (own := [("name", 3)]) (N := N__law_columns) (sc := defScope s__law_columns) (by decide +kernel)) (fun _ _ _ _ _ => (dg_name (i := 3) sc__law_columns.nd rfl (by first | exact .inl rfl | exact .inr rfl))) (fun _ _ _ _ _ => (dts_one (dt_cmp (op_ninD' (in65 hr)) (dv 3) (dv 1) (by rfl)))) (fun _ _ _ _ _ => (dv 3)))))))) dss_nil)))
    (dss_one (ds_ret (dv 1)))))))
theorem ok__law_columns : FnOk P w K mg base CX0 10 T.a__law_columns T.d__law_columns ["expression"] (spV ⟨K, P, w⟩ 1 f__law_columns) := (okr__law_columns T 9)
theorem bd__law_digit : Binds K T.d__law_digit ["state", "many"] [] := T.F__law_digit.binds (ps := ["state", "many"]) fun _ _ _ _ _ _ us hl => match us, hl with | [_, _], _ => rfl
theorem ok__law_digit : FnOk P w K mg base CX0 1 T.a__law_digit T.d__law_digit ["state", "many"] (spIO ⟨K, P, w⟩ 2 f__law_digit) := fn_IO (N := N__law_digit) (g := g__law_digit) T.F__law_digit sc__law_digit (by decide) fun cdv A outer s H E hr =>
  (dss_cons (ds_set (i := 2) sc__law_digit.nd rfl (.inl rfl) (de_bin op_modD (de_callTy call_intD (by rfl) T.z_int bt_int (da_cs (db_ix 0 de_int) da_nl)) (dv 1)))
    (dss_cons (db_setIx 0 (de_bin op_fdivD (db_ix 0 de_int) (dv 1)) de_int)
    (dss_one (ds_ret (dv 2)))))
theorem bd__law_names : Binds K T.d__law_names ["fields", "kind"] [] := T.F__law_names.binds (ps := ["fields", "kind"]) fun _ _ _ _ _ _ us hl => match us, hl with | [_, _], _ => rfl
theorem ok__law_names : FnOk P w K mg base CX0 1 T.a__law_names T.d__law_names ["fields", "kind"] (spV ⟨K, P, w⟩ 2 f__law_names) := fn_V (N := N__law_names) (g := g__law_names) T.F__law_names sc__law_names fun cdv A outer s H E hr =>
  (dss_one (ds_ret (df_de (df_lc (pe_lc (own := [("field", 2)]) (by rfl) sc__law_names.nd (di_seq (dv 0)) (blkOk_by (own := [("field", 2)]) (N := N__law_names) (sc := defScope s__law_names) (by decide +kernel)) (fun _ _ _ _ _ => (dg_name (i := 2) sc__law_names.nd rfl (by first | exact .inl rfl | exact .inr rfl))) (fun _ _ _ _ _ => (dts_one (dt_bool (dt_or (dt_cmp (op_eqD' hr.units) (dv 1) de_str (nomark _)) (dt_or1 (dt_cmp (op_eqD' hr.units) (de_ix ix_D (dv 2) de_int (fun _ _ => rfl)) (dv 1) (nomark _))))))) (fun _ _ _ _ _ => (de_ix ix_D (dv 2) de_int (fun _ _ => rfl))))))))
theorem bd__law_value : Binds K T.d__law_value ["state", "kind"] [] := T.F__law_value.binds (ps := ["state", "kind"]) fun _ _ _ _ _ _ us hl => match us, hl with | [_, _], _ => rfl
theorem ok__law_value : FnOk P w K mg base CX0 2 T.a__law_value T.d__law_value ["state", "kind"] (spIO ⟨K, P, w⟩ 2 f__law_value) := fn_IO (N := N__law_value) (g := g__law_value) T.F__law_value sc__law_value (by decide) fun cdv A outer s H E hr =>
  (dss_cons (ds_if (dt_cmp (op_eqD' hr.units) (db_io 0 (ok__law_digit T) (hr.mono (by decide)) (by rfl) T.m__law_digit T.F__law_digit.kp (bd__law_digit T) (da_cs de_int da_nl) (len_cons len_nil)) de_int (nomark _)) (dss_one (ds_ret de_non)) dss_nil)
    (dss_cons (ds_if (dt_cmp (op_eqD' hr.units) (dv 1) de_str (nomark _)) (dss_one (ds_ret (de_cmp (op_eqD' hr.units) (db_io 0 (ok__law_digit T) (hr.mono (by decide)) (by rfl) T.m__law_digit T.F__law_digit.kp (bd__law_digit T) (da_cs de_int da_nl) (len_cons len_nil)) de_int (nomark _)))) dss_nil)
    (dss_cons (ds_if (dt_cmp (op_eqD' hr.units) (dv 1) de_str (nomark _)) (dss_cons (ds_set (i := 2) sc__law_value.nd rfl (.inl rfl) (db_io 0 (ok__law_digit T) (hr.mono (by decide)) (by rfl) T.m__law_digit T.F__law_digit.kp (bd__law_digit T) (da_cs de_int da_nl) (len_cons len_nil)))
    (dss_cons (ds_if (dt_cmp (op_ltD hr.units) (dv 2) de_int (nomark _)) (dss_one (ds_ret (de_bin op_subD (db_io 0 (ok__law_digit T) (hr.mono (by decide)) (by rfl) T.m__law_digit T.F__law_digit.kp (bd__law_digit T) (da_cs de_int da_nl) (len_cons len_nil)) de_int))) dss_nil)
    (dss_cons (ds_if (dt_cmp (op_eqD' hr.units) (dv 2) de_int (nomark _)) (dss_one (ds_ret (de_bin op_subD (db_io 0 (ok__law_digit T) (hr.mono (by decide)) (by rfl) T.m__law_digit T.F__law_digit.kp (bd__law_digit T) (da_cs de_int da_nl) (len_cons len_nil)) de_int))) dss_nil)
    (dss_one (ds_ret (de_ix ix_D (df_de (df_lst (da_cs de_int (da_cs (de_un un_negD de_int) (da_cs de_int da_nl))))) (db_io 0 (ok__law_digit T) (hr.mono (by decide)) (by rfl) T.m__law_digit T.F__law_digit.kp (bd__law_digit T) (da_cs de_int da_nl) (len_cons len_nil)) (fun _ _ => rfl))))))) dss_nil)
    (dss_one (ds_ret (de_ix ix_D (de_tup (da_cs de_str (da_cs de_str (da_cs de_str (da_cs de_str (da_cs de_str (da_cs de_str (da_cs de_str (da_cs de_str da_nl))))))))) (db_io 0 (ok__law_digit T) (hr.mono (by decide)) (by rfl) T.m__law_digit T.F__law_digit.kp (bd__law_digit T) (da_cs de_int da_nl) (len_cons len_nil)) (fun _ _ => rfl)))))))
theorem bd__law_leaf : Binds K T.d__law_leaf ["state", "fields", "kind"] [] := T.F__law_leaf.binds (ps := ["state", "fields", "kind"]) fun _ _ _ _ _ _ us hl => match us, hl with | [_, _, _], _ => rfl
theorem ok__law_leaf : FnOk P w K mg base CX0 3 T.a__law_leaf T.d__law_leaf ["state", "fields", "kind"] (spIO ⟨K, P, w⟩ 3 f__law_leaf) := fn_IO (N := N__law_leaf) (g := g__law_leaf) T.F__law_leaf sc__law_leaf (by decide) fun cdv A outer s H E hr =>
  (dss_cons (ds_set (i := 3) sc__law_leaf.nd rfl (.inl rfl) (de_call (ok__law_names T) (hr.mono (by decide)) (by rfl) T.m__law_names T.F__law_names.kp (bd__law_names T) (by rfl) (da_cs (dv 1) (da_cs (dv 2) da_nl)) (len_cons (len_cons len_nil))))
    (dss_cons (ds_if (dt_bool (dt_and (dt_cmp op_gtD (de_callB call_lenD (by rfl) T.z_len bb_len (da_cs (dv 3) da_nl)) de_int (nomark _)) (dt_and1 (dt_cmp op_gtD (db_io 0 (ok__law_digit T) (hr.mono (by decide)) (by rfl) T.m__law_digit T.F__law_digit.kp (bd__law_digit T) (da_cs de_int da_nl) (len_cons len_nil)) de_int (nomark _))))) (dss_one (ds_ret (de_tup (da_cs de_str (da_cs (de_ix ix_D (dv 3) (db_io 0 (ok__law_digit T) (hr.mono (by decide)) (by rfl) T.m__law_digit T.F__law_digit.kp (bd__law_digit T) (da_cs (de_callB call_lenD (by rfl) T.z_len bb_len (da_cs (dv 3) da_nl)) da_nl) (len_cons len_nil)) (fun _ _ => rfl)) da_nl))))) dss_nil)
    (dss_cons (ds_set (i := 4) sc__law_leaf.nd rfl (.inl rfl) (dv 2))
    (dss_cons (ds_if (dt_cmp (op_eqD' hr.units) (dv 2) de_str (nomark _)) (dss_one (ds_set (i := 4) sc__law_leaf.nd rfl (.inl rfl) (de_ix ix_D (df_de (df_lst (da_cs de_str (da_cs de_str (da_cs de_str da_nl))))) (db_io 0 (ok__law_digit T) (hr.mono (by decide)) (by rfl) T.m__law_digit T.F__law_digit.kp (bd__law_digit T) (da_cs de_int da_nl) (len_cons len_nil)) (fun _ _ => rfl)))) dss_nil)
    (dss_one (ds_ret (de_tup (da_cs de_str (da_cs (db_io 0 (ok__law_value T) (hr.mono (by decide)) (by rfl) T.m__law_value T.F__law_value.kp (bd__law_value T) (da_cs (dv 4) da_nl) (len_cons len_nil)) da_nl)))))))))
theorem bd__law_flag : Binds K T.d__law_flag ["state", "levels", "fields"] [] := T.F__law_flag.binds (ps := ["state", "levels", "fields"]) fun _ _ _ _ _ _ us hl => match us, hl with | [_, _, _], _ => rfl
theorem bd__law_expression : Binds K T.d__law_expression ["state", "levels", "fields", "kind"] [] := T.F__law_expression.binds (ps := ["state", "levels", "fields", "kind"]) fun _ _ _ _ _ _ us hl => match us, hl with | [_, _, _, _], _ => rfl
theorem okr__law_flag : ∀ n : Nat, FnOk P w K mg base CX0 (4 + n) T.a__law_flag T.d__law_flag ["state", "levels", "fields"] (spIO ⟨K, P, w⟩ 3 (fuel__law_flag n).1) ∧ FnOk P w K mg base CX0 (4 + n) T.a__law_expression T.d__law_expression ["state", "levels", "fields", "kind"] (spIO ⟨K, P, w⟩ 4 (fuel__law_flag n).2)
  | 0 => ⟨fn_IO (N := N__law_flag) (g := sFail) T.F__law_flag sc__law_flag (by decide) fun cdv A outer s H E hr => dss_fail, fn_IO (N := N__law_expression) (g := sFail) T.F__law_expression sc__law_expression (by decide) fun cdv A outer s H E hr => dss_fail⟩
  | n + 1 =>
    have ih := okr__law_flag n
    ⟨fn_IO (N := N__law_flag) (g := g__law_flag (fuel__law_flag n).1 (fuel__law_flag n).2) T.F__law_flag sc__law_flag (by decide) fun cdv A outer s H E hr0 =>
  have hr : Room (4 + n) _ := hr0
  (dss_cons (ds_set (i := 3) sc__law_flag.nd rfl (.inl rfl) (db_io 0 (ok__law_digit T) (hr.mono (by omega)) (by rfl) T.m__law_digit T.F__law_digit.kp (bd__law_digit T) (da_cs de_int da_nl) (len_cons len_nil)))
    (dss_cons (ds_set (i := 4) sc__law_flag.nd rfl (.inl rfl) (de_ix ix_D (df_de (df_lst (da_cs de_str (da_cs de_str (da_cs de_str da_nl))))) (db_io 0 (ok__law_digit T) (hr.mono (by omega)) (by rfl) T.m__law_digit T.F__law_digit.kp (bd__law_digit T) (da_cs de_int da_nl) (len_cons len_nil)) (fun _ _ => rfl)))
    (dss_cons (ds_if (dt_cmp (op_eqD' hr.units) (dv 3) de_int (nomark _)) (dss_one (ds_ret (de_tup (da_cs de_str (da_cs (db_io 0 (ih.2) (hr.mono (by omega)) (by rfl) T.m__law_expression T.F__law_expression.kp (bd__law_expression T) (da_cs (dv 1) (da_cs (dv 2) (da_cs de_str da_nl))) (len_cons (len_cons (len_cons len_nil)))) da_nl))))) dss_nil)
    (dss_cons (ds_if (dt_cmp (op_eqD' hr.units) (dv 3) de_int (nomark _)) (dss_one (ds_ret (de_tup (da_cs de_str (da_cs (db_io 0 (ih.2) (hr.mono (by omega)) (by rfl) T.m__law_expression T.F__law_expression.kp (bd__law_expression T) (da_cs (dv 1) (da_cs (dv 2) (da_cs (dv 4) da_nl))) (len_cons (len_cons (len_cons len_nil)))) da_nl))))) dss_nil)
    (dss_cons (ds_if (dt_cmp (op_ltD hr.units) (dv 3) de_int (nomark _)) (dss_one (ds_set (i := 4) sc__law_flag.nd rfl (.inl rfl) de_str)) dss_nil)
    (dss_cons (ds_set (i := 5) sc__law_flag.nd rfl (.inl rfl) (db_io 0 (ih.2) (hr.mono (by omega)) (by rfl) T.m__law_expression T.F__law_expression.kp (bd__law_expression T) (da_cs (dv 1) (da_cs (dv 2) (da_cs (dv 4) da_nl))) (len_cons (len_cons (len_cons len_nil)))))
    (dss_cons (ds_set (i := 6) sc__law_flag.nd rfl (.inl rfl) (de_ix ix_D (df_de (df_lst (da_cs de_str (da_cs de_str da_nl)))) (db_io 0 (ok__law_digit T) (hr.mono (by omega)) (by rfl) T.m__law_digit T.F__law_digit.kp (bd__law_digit T) (da_cs de_int da_nl) (len_cons len_nil)) (fun _ _ => rfl)))
    (dss_cons (ds_if (dt_cmp op_geD (dv 3) de_int (nomark _)) (dss_one (ds_set (i := 6) sc__law_flag.nd rfl (.inl rfl) (de_ix ix_D (df_de (df_lst (da_cs de_str (da_cs de_str (da_cs de_str da_nl))))) (db_io 0 (ok__law_digit T) (hr.mono (by omega)) (by rfl) T.m__law_digit T.F__law_digit.kp (bd__law_digit T) (da_cs de_int da_nl) (len_cons len_nil)) (fun _ _ => rfl)))) dss_nil)
    (dss_one (ds_ret (de_tup (da_cs de_str (da_cs (dv 6) (da_cs (dv 5) (da_cs (db_io 0 (ih.2) (hr.mono (by omega)) (by rfl) T.m__law_expression T.F__law_expression.kp (bd__law_expression T) (da_cs (dv 1) (da_cs (dv 2) (da_cs (dv 4) da_nl))) (len_cons (len_cons (len_cons len_nil)))) da_nl))))))))))))))),
    fn_IO (N := N__law_expression) (g := g__law_expression (fuel__law_flag n).1 (fuel__law_flag n).2) T.F__law_expression sc__law_expression (by decide) fun cdv A outer s H E hr0 =>
  have hr : Room (4 + n) _ := hr0
  (dss_cons (ds_if (dt_cmp (op_eqD' hr.units) (db_io 0 (ok__law_digit T) (hr.mono (by omega)) (by rfl) T.m__law_digit T.F__law_digit.kp (bd__law_digit T) (da_cs de_int da_nl) (len_cons len_nil)) de_int (nomark _)) (dss_one (ds_set (i := 3) sc__law_expression.nd rfl (.inl rfl) de_str)) dss_nil)
    (dss_cons (ds_if (dt_bool (dt_or (dt_cmp (op_eqD' hr.units) (dv 1) de_int (nomark _)) (dt_or (dt_cmp (op_eqD' hr.units) (db_ix 0 de_int) de_int (nomark _)) (dt_or1 (dt_cmp (op_eqD' hr.units) (db_io 0 (ok__law_digit T) (hr.mono (by omega)) (by rfl) T.m__law_digit T.F__law_digit.kp (bd__law_digit T) (da_cs de_int da_nl) (len_cons len_nil)) de_int (nomark _)))))) (dss_one (ds_ret (db_io 0 (ok__law_leaf T) (hr.mono (by omega)) (by rfl) T.m__law_leaf T.F__law_leaf.kp (bd__law_leaf T) (da_cs (dv 2) (da_cs (dv 3) da_nl)) (len_cons (len_cons len_nil))))) dss_nil)
    (dss_cons (ds_if (dt_bool (dt_or (dt_cmp (op_eqD' hr.units) (db_io 0 (ok__law_digit T) (hr.mono (by omega)) (by rfl) T.m__law_digit T.F__law_digit.kp (bd__law_digit T) (da_cs de_int da_nl) (len_cons len_nil)) de_int (nomark _)) (dt_or (dt_cmp (op_eqD' hr.units) (dv 3) de_str (nomark _)) (dt_or1 (dt_cmp (op_eqD' hr.units) (dv 3) de_str (nomark _)))))) (dss_cons (ds_set (i := 4) sc__law_expression.nd rfl (.inl rfl) (db_io 0 (ih.2) (hr.mono (by omega)) (by rfl) T.m__law_expression T.F__law_expression.kp (bd__law_expression T) (da_cs (de_bin op_subD (dv 1) de_int) (da_cs (dv 2) (da_cs de_str da_nl))) (len_cons (len_cons (len_cons len_nil)))))
    (dss_cons (ds_set (i := 5) sc__law_expression.nd rfl (.inl rfl) (db_io 0 (ih.2) (hr.mono (by omega)) (by rfl) T.m__law_expression T.F__law_expression.kp (bd__law_expression T) (da_cs (de_bin op_subD (dv 1) de_int) (da_cs (dv 2) (da_cs (dv 3) da_nl))) (len_cons (len_cons (len_cons len_nil)))))
    (dss_one (ds_ret (de_tup (da_cs de_str (da_cs (dv 4) (da_cs (dv 5) (da_cs (db_io 0 (ih.2) (hr.mono (by omega)) (by rfl) T.m__law_expression T.F__law_expression.kp (bd__law_expression T) (da_cs (de_bin op_subD (dv 1) de_int) (da_cs (dv 2) (da_cs (dv 3) da_nl))) (len_cons (len_cons (len_cons len_nil)))) da_nl))))))))) dss_nil)
    (dss_cons (ds_if (dt_cmp (op_eqD' hr.units) (dv 3) de_str (nomark _)) (dss_one (ds_ret (db_io 0 (ih.1) (hr.mono (by omega)) (by rfl) T.m__law_flag T.F__law_flag.kp (bd__law_flag T) (da_cs (de_bin op_subD (dv 1) de_int) (da_cs (dv 2) da_nl)) (len_cons (len_cons len_nil))))) dss_nil)
    (dss_cons (ds_if (dt_cmp (op_eqD' hr.units) (db_io 0 (ok__law_digit T) (hr.mono (by omega)) (by rfl) T.m__law_digit T.F__law_digit.kp (bd__law_digit T) (da_cs de_int da_nl) (len_cons len_nil)) de_int (nomark _)) (dss_one (ds_ret (de_tup (da_cs de_str (da_cs (db_io 0 (ih.2) (hr.mono (by omega)) (by rfl) T.m__law_expression T.F__law_expression.kp (bd__law_expression T) (da_cs (de_bin op_subD (dv 1) de_int) (da_cs (dv 2) (da_cs de_str da_nl))) (len_cons (len_cons (len_cons len_nil)))) da_nl))))) dss_nil)
    (dss_cons (ds_set (i := 5) sc__law_expression.nd rfl (.inl rfl) (db_io 0 (ih.2) (hr.mono (by omega)) (by rfl) T.m__law_expression T.F__law_expression.kp (bd__law_expression T) (da_cs (de_bin op_subD (dv 1) de_int) (da_cs (dv 2) (da_cs de_str da_nl))) (len_cons (len_cons (len_cons len_nil)))))
    (dss_cons (ds_set (i := 6) sc__law_expression.nd rfl (.inl rfl) (de_ix ix_D (df_de (df_lst (da_cs de_str (da_cs de_str (da_cs de_str (da_cs de_str da_nl)))))) (db_io 0 (ok__law_digit T) (hr.mono (by omega)) (by rfl) T.m__law_digit T.F__law_digit.kp (bd__law_digit T) (da_cs de_int da_nl) (len_cons len_nil)) (fun _ _ => rfl)))
    (dss_one (ds_ret (de_tup (da_cs de_str (da_cs (dv 6) (da_cs (dv 5) (da_cs (db_io 0 (ih.2) (hr.mono (by omega)) (by rfl) T.m__law_expression T.F__law_expression.kp (bd__law_expression T) (da_cs (de_bin op_subD (dv 1) de_int) (da_cs (dv 2) (da_cs de_str da_nl))) (len_cons (len_cons (len_cons len_nil)))) da_nl))))))))))))))⟩
theorem ok__law_expression : FnOk P w K mg base CX0 15 T.a__law_expression T.d__law_expression ["state", "levels", "fields", "kind"] (spIO ⟨K, P, w⟩ 4 f__law_expression) := (okr__law_flag T 11).2
theorem bd__law_four : Binds K T.d__law_four ["state"] [] := T.F__law_four.binds (ps := ["state"]) fun _ _ _ _ _ _ us hl => match us, hl with | [_], _ => rfl
theorem ok__law_four : FnOk P w K mg base CX0 2 T.a__law_four T.d__law_four ["state"] (spIO ⟨K, P, w⟩ 1 f__law_four) := fn_IO (N := N__law_four) (g := g__law_four) T.F__law_four sc__law_four (by decide) fun cdv A outer s H E hr =>
  (dss_cons (ds_set (i := 1) sc__law_four.nd rfl (by first | exact .inr rfl | exact .inl rfl) (df_de (df_lst (da_cs de_str (da_cs de_str (da_cs de_str da_nl))))))
    (dss_one (ds_ret (de_callTy call_tupD (by rfl) T.z_tuple bt_tuple (da_cs (df_de (df_lc (pe_lc (own := [("name", 2)]) (by rfl) sc__law_four.nd (di_seq (de_slice (df_de (df_lst (da_cs de_str (da_cs de_str (da_cs de_str (da_cs de_str da_nl)))))) do_none (do_some (de_bin op_addD de_int (db_io 0 (ok__law_digit T) (hr.mono (by decide)) (by rfl) T.m__law_digit T.F__law_digit.kp (bd__law_digit T) (da_cs de_int da_nl) (len_cons len_nil)))))) (blkOk_by (own := [("name", 2)]) (N := N__law_four) (sc := defScope s__law_four) (by decide +kernel)) (fun _ _ _ _ _ => (dg_name (i := 2) sc__law_four.nd rfl (by first | exact .inl rfl | exact .inr rfl))) (fun _ _ _ _ _ => dts_nil) (fun _ _ _ _ _ => (de_tup (da_cs (dv 2) (da_cs (de_ix ix_D (dv 1) (db_io 0 (ok__law_digit T) (hr.mono (by decide)) (by rfl) T.m__law_digit T.F__law_digit.kp (bd__law_digit T) (da_cs de_int da_nl) (len_cons len_nil)) (fun _ _ => rfl)) da_nl))))))) da_nl)))))
theorem bd__law_row : Binds K T.d__law_row ["state", "fields"] [] := T.F__law_row.binds (ps := ["state", "fields"]) fun _ _ _ _ _ _ us hl => match us, hl with | [_, _], _ => rfl
theorem ok__law_row : FnOk P w K mg base CX0 3 T.a__law_row T.d__law_row ["state", "fields"] (spIO ⟨K, P, w⟩ 2 f__law_row) := fn_IO (N := N__law_row) (g := g__law_row) T.F__law_row sc__law_row (by decide) fun cdv A outer s H E hr =>
  (dss_one (ds_ret (de_callTy call_tupD (by rfl) T.z_tuple bt_tuple (da_cs (df_de (df_lc (pe_lc (own := [("field", 2)]) (by rfl) sc__law_row.nd (di_seq (dv 1)) (blkOk_by (own := [("field", 2)]) (N := N__law_row) (sc := defScope s__law_row) (by decide +kernel)) (fun _ _ _ _ _ => (dg_name (i := 2) sc__law_row.nd rfl (by first | exact .inl rfl | exact .inr rfl))) (fun _ _ _ _ _ => dts_nil) (fun _ _ _ _ _ => (db_io 0 (ok__law_value T) (hr.mono (by decide)) (by rfl) T.m__law_value T.F__law_value.kp (bd__law_value T) (da_cs (de_ix ix_D (dv 2) de_int (fun _ _ => rfl)) da_nl) (len_cons len_nil)))))) da_nl))))
theorem bd__law_start : Binds K T.d__law_start ["cell", "k"] [] := T.F__law_start.binds (ps := ["cell", "k"]) fun _ _ _ _ _ _ us hl => match us, hl with | [_, _], _ => rfl
theorem ok__law_start : FnOk P w K mg base CX0 1 T.a__law_start T.d__law_start ["cell", "k"] (spF ⟨K, P, w⟩ 2 f__law_start) := fn_F (N := N__law_start) (g := g__law_start) T.F__law_start sc__law_start fun cdv A outer s H E hr =>
  (dss_cons (ds_set (i := 2) sc__law_start.nd rfl (.inl rfl) de_int)
    (dss_cons (ds_if (dt_chain (op_ltD hr.units) (op_ltD hr.units) (de_un un_negD de_int) (dv 0) de_int) (dss_cons (ds_set (i := 3) sc__law_start.nd rfl (.inl rfl) (de_bin op_modD (de_callTy call_intD (by rfl) T.z_int bt_int (da_cs (de_bin op_addD (de_bin op_mulS (dv 0) de_int) (de_bin op_mulS (de_bin op_addD (dv 1) de_int) de_int)) da_nl)) (dv 2)))
    (dss_cons (ds_set (i := 4) sc__law_start.nd rfl (.inl rfl) de_int)
    (dss_cons (ds_for PassesOwn.never rfl (di_rng1 (by rfl) T.z_range (da_cs de_int da_nl)) (dg_name (i := 5) sc__law_start.nd rfl (.inl rfl)) (dss_cons (ds_set (i := 3) sc__law_start.nd rfl (.inl rfl) (de_bin op_modD (de_callTy call_intD (by rfl) T.z_int bt_int (da_cs (de_bin op_addD (de_bin op_addD (de_bin op_addD (de_bin op_mulD (dv 3) (dv 3)) (de_bin op_mulD de_int (dv 3))) (dv 1)) (dv 5)) da_nl)) (dv 2)))
    (dss_one (ds_set (i := 4) sc__law_start.nd rfl (.inl rfl) (de_bin op_addD (de_bin op_mulD (dv 4) (dv 2)) (dv 3))))))
    (dss_one (ds_rof (df_lst (da_cs (dv 4) da_nl))))))) dss_nil)
    (dss_one (ds_rof (df_lst (da_cs (de_callB call_absD (by rfl) T.z_abs bb_abs (da_cs (dv 0) da_nl)) da_nl))))))
theorem bd_column_index : Binds K T.d_column_index ["fields", "name"] [] := T.F_column_index.binds (ps := ["fields", "name"]) fun _ _ _ _ _ _ us hl => match us, hl with | [_, _], _ => rfl
theorem ok_column_index : FnOk P w K mg base CX0 1 T.a_column_index T.d_column_index ["fields", "name"] (spV ⟨K, P, w⟩ 2 f_column_index) := fn_V (N := N_column_index) (g := g_column_index) T.F_column_index sc_column_index fun cdv A outer s H E hr =>
  (dss_cons (ds_for PassesOwn.never rfl (di_enum (by rfl) T.z_enumerate (da_cs (dv 0) da_nl)) (dg_tup rfl (dgs_cons (dg_name (i := 2) sc_column_index.nd rfl (.inl rfl)) (dgs_cons (dg_name (i := 3) sc_column_index.nd rfl (.inl rfl)) dgs_nil))) (dss_one (ds_if (dt_cmp (op_eqD' hr.units) (de_ix ix_D (dv 3) de_int (fun _ _ => rfl)) (dv 1) (nomark _)) (dss_one (ds_ret (dv 2))) dss_nil)))
    (dss_one (ds_ret de_non)))
theorem bd_parts_of : Binds K T.d_parts_of ["expression"] [] := T.F_parts_of.binds (ps := ["expression"]) fun _ _ _ _ _ _ us hl => match us, hl with | [_], _ => rfl
theorem ok_parts_of : FnOk P w K mg base CX0 1 T.a_parts_of T.d_parts_of ["expression"] (spV ⟨K, P, w⟩ 1 f_parts_of) := fn_V (N := N_parts_of) (g := g_parts_of) T.F_parts_of sc_parts_of fun cdv A outer s H E hr =>
  (dss_cons (ds_if (dt_bool (dt_or (dt_cmp (op_eqD' hr.units) (de_ix ix_D (dv 0) de_int (fun _ _ => rfl)) de_str (nomark _)) (dt_or1 (dt_cmp (op_eqD' hr.units) (de_ix ix_D (dv 0) de_int (fun _ _ => rfl)) de_str (nomark _))))) (dss_one (ds_ret (df_de (df_lst da_nl)))) dss_nil)
    (dss_cons (ds_if (dt_cmp (op_eqD' hr.units) (de_ix ix_D (dv 0) de_int (fun _ _ => rfl)) de_str (nomark _)) (dss_one (ds_ret (df_de (df_lst (da_cs (de_ix ix_D (dv 0) de_int (fun _ _ => rfl)) (da_cs (de_ix ix_D (dv 0) de_int (fun _ _ => rfl)) da_nl)))))) dss_nil)
    (dss_one (ds_ret (df_de (df_callTy call_lstD (by rfl) T.z_list bt_list (da_cs (de_slice (dv 0) (do_some de_int) do_none) da_nl)))))))
theorem bd_agree : Binds K T.d_agree ["first", "second"] [] := T.F_agree.binds (ps := ["first", "second"]) fun _ _ _ _ _ _ us hl => match us, hl with | [_, _], _ => rfl
theorem ok_agree : FnOk P w K mg base CX0 1 T.a_agree T.d_agree ["first", "second"] (spV ⟨K, P, w⟩ 2 f_agree) := fn_V (N := N_agree) (g := g_agree) T.F_agree sc_agree fun cdv A outer s H E hr =>
  (dss_one (ds_ret (de_or (de_cmp op_isD (dv 0) de_non (nomark _)) (de_or (de_cmp op_isD (dv 1) de_non (nomark _)) (de_one (de_cmp (op_eqD' hr.units) (dv 0) (dv 1) (nomark _)))))))
theorem bd_want : Binds K T.d_want ["types", "wanted"] [] := T.F_want.binds (ps := ["types", "wanted"]) fun _ _ _ _ _ _ us hl => match us, hl with | [_, _], _ => rfl
theorem ok_want : FnOk P w K mg base (L2.CX P w) 2 T.a_want T.d_want ["types", "wanted"] (spX ⟨K, P, w⟩ mg 2 f_want) := fn_X (N := N_want) (g := g_want) T.F_want sc_want fun cdv A outer s H E hr =>
  (sxs_one (sx_for (passes_of rfl) rfl (di_seq (dv 0)) (dg_name (i := 2) sc_want.nd rfl (.inl rfl)) (sxs_one (sx_if (tx_ok (dt_not (dt_tru (de_call (ok_agree T) (hr.mono (by decide)) (by rfl) T.m_agree T.F_agree.kp (bd_agree T) (by rfl) (da_cs (dv 2) (da_cs (dv 1) da_nl)) (len_cons (len_cons len_nil)))))) (sxs_one (sx_raise rfl T.X_InvalidOperator hr (takes_of rfl rfl rfl rfl) de_str (by rfl))) sxs_nil))))
theorem bd_type_of_binary : Binds K T.d_type_of_binary ["sign", "types"] [] := T.F_type_of_binary.binds (ps := ["sign", "types"]) fun _ _ _ _ _ _ us hl => match us, hl with | [_, _], _ => rfl
theorem ok_type_of_binary : FnOk P w K mg base (L2.CX P w) 3 T.a_type_of_binary T.d_type_of_binary ["sign", "types"] (spX ⟨K, P, w⟩ mg 2 f_type_of_binary) := fn_X (N := N_type_of_binary) (g := g_type_of_binary) T.F_type_of_binary sc_type_of_binary fun cdv A outer s H E hr =>
  (sxs_cons (sx_if (tx_ok (dt_cmp (op_inD' (in65 hr)) (dv 0) (de_tup (da_cs de_str (da_cs de_str (da_cs de_str (da_cs de_str da_nl))))) (by rfl))) (sxs_cons (sx_expr (ex_call (takes_of rfl rfl rfl rfl) (ok_want T) (hr.mono (by decide)) (by rfl) T.m_want T.F_want.kp (bd_want T) (ax_ok (da_cs (dv 1) (da_cs de_str da_nl))) (xlen_ok (len_cons (len_cons len_nil)))))
    (sxs_one (sx_ok (ds_ret de_str)))) sxs_nil)
    (sxs_cons (sx_if (tx_ok (dt_cmp (op_inD' (in65 hr)) (dv 0) (de_tup (da_cs de_str (da_cs de_str da_nl))) (by rfl))) (sxs_cons (sx_expr (ex_call (takes_of rfl rfl rfl rfl) (ok_want T) (hr.mono (by decide)) (by rfl) T.m_want T.F_want.kp (bd_want T) (ax_ok (da_cs (dv 1) (da_cs de_str da_nl))) (xlen_ok (len_cons (len_cons len_nil)))))
    (sxs_one (sx_ok (ds_ret de_str)))) sxs_nil)
    (sxs_cons (sx_expr (ex_call (takes_of rfl rfl rfl rfl) (ok_want T) (hr.mono (by decide)) (by rfl) T.m_want T.F_want.kp (bd_want T) (ax_ok (da_cs (de_slice (dv 1) do_none (do_some de_int)) (da_cs (de_ix ix_D (dv 1) de_int (fun _ _ => rfl)) da_nl))) (xlen_ok (len_cons (len_cons len_nil)))))
    (sxs_one (sx_ok (ds_ret de_str))))))
theorem bd_type_of_value : Binds K T.d_type_of_value ["value"] [] := T.F_type_of_value.binds (ps := ["value"]) fun _ _ _ _ _ _ us hl => match us, hl with | [_], _ => rfl
theorem ok_type_of_value : FnOk P w K mg base CX0 1 T.a_type_of_value T.d_type_of_value ["value"] (spV ⟨K, P, w⟩ 1 f_type_of_value) := fn_V (N := N_type_of_value) (g := g_type_of_value) T.F_type_of_value sc_type_of_value fun cdv A outer s H E hr =>
  (dss_cons (ds_if (dt_cmp op_isD (dv 0) de_non (nomark _)) (dss_one (ds_ret de_non)) dss_nil)
    (dss_cons (ds_if (dt_tru (de_isi T.z_isinstance (by rfl) (by rfl) T.z_bool bt_bool (dv 0))) (dss_one (ds_ret de_str)) dss_nil)
    (dss_cons (ds_if (dt_tru (de_isi T.z_isinstance (by rfl) (by rfl) T.z_int bt_int (dv 0))) (dss_one (ds_ret de_str)) dss_nil)
    (dss_one (ds_ret de_str)))))
theorem bd_type_of : Binds K T.d_type_of ["expression", "fields"] [] := T.F_type_of.binds (ps := ["expression", "fields"]) fun _ _ _ _ _ _ us hl => match us, hl with | [_, _], _ => rfl
theorem okr_type_of : ∀ n : Nat, FnOk P w K mg base (L2.CX P w) (4 + n) T.a_type_of T.d_type_of ["expression", "fields"] (spX ⟨K, P, w⟩ mg 2 (fuel_type_of n))
  | 0 => fn_X (N := N_type_of) (g := xFail) T.F_type_of sc_type_of fun cdv A outer s H E hr => sxs_fail
  | n + 1 =>
    have ih := okr_type_of n
    fn_X (N := N_type_of) (g := g_type_of (fuel_type_of n)) T.F_type_of sc_type_of fun cdv A outer s H E hr0 =>
  have hr : Room (4 + n) _ := hr0
  (sxs_cons (sx_ok (ds_set (i := 2) sc_type_of.nd rfl (.inl rfl) (de_ix ix_D (dv 0) de_int (fun _ _ => rfl))))
    (sxs_cons (sx_if (tx_ok (dt_cmp (op_eqD' hr.units) (dv 2) de_str (nomark _))) (sxs_cons (sx_ok (ds_set (i := 3) sc_type_of.nd rfl (.inl rfl) (de_call (ok_column_index T) (hr.mono (by omega)) (by rfl) T.m_column_index T.F_column_index.kp (bd_column_index T) (by rfl) (da_cs (dv 1) (da_cs (de_ix ix_D (dv 0) de_int (fun _ _ => rfl)) da_nl)) (len_cons (len_cons len_nil)))))
    (sxs_cons (sx_if (tx_ok (dt_cmp op_isD (dv 3) de_non (nomark _))) (sxs_one (sx_raise rfl T.X_InvalidOperator hr (takes_of rfl rfl rfl rfl) (de_bin op_addD de_str (de_ix ix_D (dv 0) de_int (fun _ _ => rfl))) (by rfl))) sxs_nil)
    (sxs_one (sx_ok (ds_ret (de_ix ix_D (de_ix ix_D (dv 1) (dv 3) (fun _ _ => rfl)) de_int (fun _ _ => rfl))))))) sxs_nil)
    (sxs_cons (sx_ok (ds_if (dt_cmp (op_eqD' hr.units) (dv 2) de_str (nomark _)) (dss_one (ds_ret (de_call (ok_type_of_value T) (hr.mono (by omega)) (by rfl) T.m_type_of_value T.F_type_of_value.kp (bd_type_of_value T) (by rfl) (da_cs (de_ix ix_D (dv 0) de_int (fun _ _ => rfl)) da_nl) (len_cons len_nil)))) dss_nil))
    (sxs_cons (sx_lcO (i := 4) (ps_setLcX (takes_of rfl rfl rfl rfl) rfl rfl (i := 4) (own := [("part", 5)]) (by rfl) sc_type_of.nd rfl rfl (sw_true rfl rfl rfl (by decide +kernel)) (di_seq (de_call (ok_parts_of T) (hr.mono (by omega)) (by rfl) T.m_parts_of T.F_parts_of.kp (bd_parts_of T) (by rfl) (da_cs (dv 0) da_nl) (len_cons len_nil))) (blkOk_by (own := [("part", 5)]) (N := N_type_of) (sc := defScope s_type_of) (by decide +kernel)) (fun _ _ _ _ _ => (dg_name (i := 5) sc_type_of.nd rfl (by first | exact .inl rfl | exact .inr rfl))) (fun _ _ _ _ _ => dts_nil) (fun _ _ _ _ _ _ _ hp => (ex_callP hp (ih) (hr.mono (by omega)) (by rfl) T.m_type_of T.F_type_of.kp (bd_type_of T) (ax_ok (da_cs (dv 5) (da_cs (dv 1) da_nl))) (xlen_ok (len_cons (len_cons len_nil)))))))
    (sxs_cons (sx_if (tx_ok (dt_cmp (op_eqD' hr.units) (dv 2) de_str (nomark _))) (sxs_one (sx_ret (ex_call (takes_of rfl rfl rfl rfl) (ok_type_of_binary T) (hr.mono (by omega)) (by rfl) T.m_type_of_binary T.F_type_of_binary.kp (bd_type_of_binary T) (ax_ok (da_cs (de_ix ix_D (dv 0) de_int (fun _ _ => rfl)) (da_cs (dz 4) da_nl))) (xlen_ok (len_cons (len_cons len_nil)))))) sxs_nil)
    (sxs_cons (sx_if (tx_ok (dt_cmp (op_eqD' hr.units) (dv 2) de_str (nomark _))) (sxs_cons (sx_expr (ex_call (takes_of rfl rfl rfl rfl) (ok_want T) (hr.mono (by omega)) (by rfl) T.m_want T.F_want.kp (bd_want T) (ax_ok (da_cs (de_slice (dz 4) do_none (do_some de_int)) (da_cs de_str da_nl))) (xlen_ok (len_cons (len_cons len_nil)))))
    (sxs_cons (sx_expr (ex_call (takes_of rfl rfl rfl rfl) (ok_want T) (hr.mono (by omega)) (by rfl) T.m_want T.F_want.kp (bd_want T) (ax_ok (da_cs (de_slice (dz 4) (do_some de_int) (do_some de_int)) (da_cs (db_ix 4 de_int) da_nl))) (xlen_ok (len_cons (len_cons len_nil)))))
    (sxs_one (sx_ok (ds_ret (de_ifE (dt_cmp op_isD (db_ix 4 de_int) de_non (nomark _)) (db_ix 4 de_int) (db_ix 4 de_int))))))) sxs_nil)
    (sxs_cons (sx_if (tx_ok (dt_cmp (op_eqD' hr.units) (dv 2) de_str (nomark _))) (sxs_cons (sx_expr (ex_call (takes_of rfl rfl rfl rfl) (ok_want T) (hr.mono (by omega)) (by rfl) T.m_want T.F_want.kp (bd_want T) (ax_ok (da_cs (dz 4) (da_cs de_str da_nl))) (xlen_ok (len_cons (len_cons len_nil)))))
    (sxs_one (sx_ok (ds_ret de_str)))) sxs_nil)
    (sxs_cons (sx_if (tx_ok (dt_cmp (op_eqD' hr.units) (dv 2) de_str (nomark _))) (sxs_cons (sx_expr (ex_call (takes_of rfl rfl rfl rfl) (ok_want T) (hr.mono (by omega)) (by rfl) T.m_want T.F_want.kp (bd_want T) (ax_ok (da_cs (dz 4) (da_cs de_str da_nl))) (xlen_ok (len_cons (len_cons len_nil)))))
    (sxs_one (sx_ok (ds_ret de_str)))) sxs_nil)
    (sxs_one (sx_ok (ds_ret de_str)))))))))))
theorem ok_type_of : FnOk P w K mg base (L2.CX P w) 13 T.a_type_of T.d_type_of ["expression", "fields"] (spX ⟨K, P, w⟩ mg 2 f_type_of) := (okr_type_of T 9)
theorem bd__law_typed : Binds K T.d__law_typed ["expression", "fields"] [] := T.F__law_typed.binds (ps := ["expression", "fields"]) fun _ _ _ _ _ _ us hl => match us, hl with | [_, _], _ => rfl
theorem ok__law_typed : FnOk P w K mg base CX0 14 T.a__law_typed T.d__law_typed ["expression", "fields"] (spV ⟨K, P, w⟩ 2 f__law_typed) := fn_V (N := N__law_typed) (g := g__law_typed) T.F__law_typed sc__law_typed fun cdv A outer s H E hr =>
  (dss_one (ds_noX (sx_tryB rfl rfl ⟨by rfl, by decide, .inl T.X_InvalidOperator.gC⟩ Dn.takes0 (fun W pn xe tk hpo => (sxs_one (sx_ret (ex_tup (ax_cs (ex_call tk (ok_type_of T) (hr.mono (by decide)) (by rfl) T.m_type_of T.F_type_of.kp (bd_type_of T) (ax_ok (da_cs (dv 0) (da_cs (dv 1) da_nl))) (xlen_ok (len_cons (len_cons len_nil)))) (ax_cs (ex_ok de_bl) ax_nl)))))) (HB.yes T.X_InvalidOperator.gC T.ex_InvalidOperator_InvalidOperator (fun m a oe pn => (dss_one (ds_ret (de_tup (da_cs de_non (da_cs de_bl da_nl)))))) HB.nil))))
theorem bd_columns_of : Binds K T.d_columns_of ["expression"] [] := T.F_columns_of.binds (ps := ["expression"]) fun _ _ _ _ _ _ us hl => match us, hl with | [_], _ => rfl
theorem okr_columns_of : ∀ n : Nat, FnOk P w K mg base CX0 (2 + n) T.a_columns_of T.d_columns_of ["expression"] (spV ⟨K, P, w⟩ 1 (fuel_columns_of n))
  | 0 => fn_V (N := N_columns_of) (g := sFail) T.F_columns_of sc_columns_of fun cdv A outer s H E hr => dss_fail
  | n + 1 =>
    have ih := okr_columns_of n
    fn_V (N := N_columns_of) (g := g_columns_of (fuel_columns_of n)) T.F_columns_of sc_columns_of fun cdv A outer s H E hr0 =>
  have hr : Room (2 + n) _ := hr0
  (dss_cons (ds_if (dt_cmp (op_eqD' hr.units) (de_ix ix_D (dv 0) de_int (fun _ _ => rfl)) de_str (nomark _)) (dss_one (ds_ret (df_de (df_lst (da_cs (de_ix ix_D (dv 0) de_int (fun _ _ => rfl)) da_nl))))) dss_nil)
    (dss_cons (ds_own (i := 1) sc_columns_of.nd rfl (by first | exact .inr rfl | exact .inl rfl) (df_lst da_nl))
    (dss_cons (ds_for PassesOwn.never rfl (di_seq (de_call (ok_parts_of T) (hr.mono (by omega)) (by rfl) T.m_parts_of T.F_parts_of.kp (bd_parts_of T) (by rfl) (da_cs (dv 0) da_nl) (len_cons len_nil))) (dg_name (i := 2) sc_columns_of.nd rfl (.inl rfl)) (dss_one (ds_ext 1 (pe_bm PySem.F.plainAttrs_list PySem.F.slot_list_extend PySem.F.type_list_extend mt_extS (pv 1) (pa_cons (df_de (df_lc (pe_lc (own := [("name", 3)]) (by rfl) sc_columns_of.nd (di_seq (de_call (ih) (hr.mono (by omega)) (by rfl) T.m_columns_of T.F_columns_of.kp (bd_columns_of T) (by rfl) (da_cs (dv 2) da_nl) (len_cons len_nil))) (blkOk_by (own := [("name", 3)]) (N := N_columns_of) (sc := defScope s_columns_of) (by decide +kernel)) (fun _ _ _ _ _ => (dg_name (i := 3) sc_columns_of.nd rfl (by first | exact .inl rfl | exact .inr rfl))) (fun _ _ _ _ _ => (dts_one (dbt_nin 1 (in65 hr) (dv 3)))) (fun _ _ _ _ _ => (dv 3))))) pa_nil)))))
    (dss_one (ds_ret (dz 1))))))
theorem ok_columns_of : FnOk P w K mg base CX0 11 T.a_columns_of T.d_columns_of ["expression"] (spV ⟨K, P, w⟩ 1 f_columns_of) := (okr_columns_of T 9)
theorem bd_bounded : Binds K T.d_bounded ["number"] [] := T.F_bounded.binds (ps := ["number"]) fun _ _ _ _ _ _ us hl => match us, hl with | [_], _ => rfl
theorem ok_bounded : FnOk P w K mg base CX0 1 T.a_bounded T.d_bounded ["number"] (spV ⟨K, P, w⟩ 1 f_bounded) := fn_V (N := N_bounded) (g := g_bounded) T.F_bounded sc_bounded fun cdv A outer s H E hr =>
  (dss_cons (ds_if (dt_cmp op_gtD (de_callB call_absD (by rfl) T.z_abs bb_abs (da_cs (dv 0) da_nl)) (de_glob (by rfl) T.c_MOST_NUMBER) (nomark _)) (dss_one (ds_ret de_non)) dss_nil)
    (dss_one (ds_ret (dv 0))))
theorem bd_value_order : Binds K T.d_value_order ["value"] [] := T.F_value_order.binds (ps := ["value"]) fun _ _ _ _ _ _ us hl => match us, hl with | [_], _ => rfl
theorem ok_value_order : FnOk P w K mg base CX0 1 T.a_value_order T.d_value_order ["value"] (spV ⟨K, P, w⟩ 1 f_value_order) := fn_V (N := N_value_order) (g := g_value_order) T.F_value_order sc_value_order fun cdv A outer s H E hr =>
  (dss_cons (ds_if (dt_cmp op_isD (dv 0) de_non (nomark _)) (dss_one (ds_ret (de_tup (da_cs de_int (da_cs de_int da_nl))))) dss_nil)
    (dss_cons (ds_if (dt_tru (de_isi T.z_isinstance (by rfl) (by rfl) T.z_bool bt_bool (dv 0))) (dss_one (ds_ret (de_tup (da_cs de_int (da_cs (de_callTy call_intD (by rfl) T.z_int bt_int (da_cs (dv 0) da_nl)) da_nl))))) dss_nil)
    (dss_cons (ds_if (dt_tru (de_isi T.z_isinstance (by rfl) (by rfl) T.z_int bt_int (dv 0))) (dss_one (ds_ret (de_tup (da_cs de_int (da_cs (dv 0) da_nl))))) dss_nil)
    (dss_one (ds_ret (de_tup (da_cs de_int (da_cs (dv 0) da_nl))))))))
theorem bd_reckon : Binds K T.d_reckon ["sign", "first", "second"] [] := T.F_reckon.binds (ps := ["sign", "first", "second"]) fun _ _ _ _ _ _ us hl => match us, hl with | [_, _, _], _ => rfl
theorem ok_reckon : FnOk P w K mg base CX0 2 T.a_reckon T.d_reckon ["sign", "first", "second"] (spV ⟨K, P, w⟩ 3 f_reckon) := fn_V (N := N_reckon) (g := g_reckon) T.F_reckon sc_reckon fun cdv A outer s H E hr =>
  (dss_cons (ds_if (dt_cmp (op_eqD' hr.units) (dv 0) de_str (nomark _)) (dss_one (ds_ret (de_call (ok_bounded T) (hr.mono (by decide)) (by rfl) T.m_bounded T.F_bounded.kp (bd_bounded T) (by rfl) (da_cs (de_bin op_addD (dv 1) (dv 2)) da_nl) (len_cons len_nil)))) dss_nil)
    (dss_cons (ds_if (dt_cmp (op_eqD' hr.units) (dv 0) de_str (nomark _)) (dss_one (ds_ret (de_call (ok_bounded T) (hr.mono (by decide)) (by rfl) T.m_bounded T.F_bounded.kp (bd_bounded T) (by rfl) (da_cs (de_bin op_subD (dv 1) (dv 2)) da_nl) (len_cons len_nil)))) dss_nil)
    (dss_cons (ds_if (dt_cmp (op_eqD' hr.units) (dv 0) de_str (nomark _)) (dss_one (ds_ret (de_call (ok_bounded T) (hr.mono (by decide)) (by rfl) T.m_bounded T.F_bounded.kp (bd_bounded T) (by rfl) (da_cs (de_bin op_mulD (dv 1) (dv 2)) da_nl) (len_cons len_nil)))) dss_nil)
    (dss_cons (ds_if (dt_cmp (op_eqD' hr.units) (dv 0) de_str (nomark _)) (dss_cons (ds_if (dt_cmp (op_eqD' hr.units) (dv 2) de_int (nomark _)) (dss_one (ds_ret de_non)) dss_nil)
    (dss_one (ds_ret (de_call (ok_bounded T) (hr.mono (by decide)) (by rfl) T.m_bounded T.F_bounded.kp (bd_bounded T) (by rfl) (da_cs (de_bin op_fdivE (dv 1) (dv 2)) da_nl) (len_cons len_nil))))) dss_nil)
    (dss_cons (ds_if (dt_cmp (op_eqD' hr.units) (dv 0) de_str (nomark _)) (dss_one (ds_ret (de_cmp (op_eqD' hr.units) (de_call (ok_value_order T) (hr.mono (by decide)) (by rfl) T.m_value_order T.F_value_order.kp (bd_value_order T) (by rfl) (da_cs (dv 1) da_nl) (len_cons len_nil)) (de_call (ok_value_order T) (hr.mono (by decide)) (by rfl) T.m_value_order T.F_value_order.kp (bd_value_order T) (by rfl) (da_cs (dv 2) da_nl) (len_cons len_nil)) (nomark _)))) dss_nil)
    (dss_cons (ds_if (dt_cmp (op_eqD' hr.units) (dv 0) de_str (nomark _)) (dss_one (ds_ret (de_cmp (op_ltD hr.units) (de_call (ok_value_order T) (hr.mono (by decide)) (by rfl) T.m_value_order T.F_value_order.kp (bd_value_order T) (by rfl) (da_cs (dv 1) da_nl) (len_cons len_nil)) (de_call (ok_value_order T) (hr.mono (by decide)) (by rfl) T.m_value_order T.F_value_order.kp (bd_value_order T) (by rfl) (da_cs (dv 2) da_nl) (len_cons len_nil)) (nomark _)))) dss_nil)
    (dss_one (ds_ret (de_cmp (op_leF hr.units) (de_call (ok_value_order T) (hr.mono (by decide)) (by rfl) T.m_value_order T.F_value_order.kp (bd_value_order T) (by rfl) (da_cs (dv 1) da_nl) (len_cons len_nil)) (de_call (ok_value_order T) (hr.mono (by decide)) (by rfl) T.m_value_order T.F_value_order.kp (bd_value_order T) (by rfl) (da_cs (dv 2) da_nl) (len_cons len_nil)) (nomark _))))))))))
theorem bd_evaluate : Binds K T.d_evaluate ["expression", "fields", "row"] [] := T.F_evaluate.binds (ps := ["expression", "fields", "row"]) fun _ _ _ _ _ _ us hl => match us, hl with | [_, _, _], _ => rfl
theorem bd_evaluate_binary : Binds K T.d_evaluate_binary ["expression", "fields", "row"] [] := T.F_evaluate_binary.binds (ps := ["expression", "fields", "row"]) fun _ _ _ _ _ _ us hl => match us, hl with | [_, _, _], _ => rfl
theorem okr_evaluate : ∀ n : Nat, FnOk P w K mg base CX0 (3 + n) T.a_evaluate T.d_evaluate ["expression", "fields", "row"] (spV ⟨K, P, w⟩ 3 (fuel_evaluate n).1) ∧ FnOk P w K mg base CX0 (3 + n) T.a_evaluate_binary T.d_evaluate_binary ["expression", "fields", "row"] (spV ⟨K, P, w⟩ 3 (fuel_evaluate n).2)
  | 0 => ⟨fn_V (N := N_evaluate) (g := sFail) T.F_evaluate sc_evaluate fun cdv A outer s H E hr => dss_fail, fn_V (N := N_evaluate_binary) (g := sFail) T.F_evaluate_binary sc_evaluate_binary fun cdv A outer s H E hr => dss_fail⟩
  | n + 1 =>
    have ih := okr_evaluate n
    ⟨fn_V (N := N_evaluate) (g := g_evaluate (fuel_evaluate n).1 (fuel_evaluate n).2) T.F_evaluate sc_evaluate fun cdv A outer s H E hr0 =>
  have hr : Room (3 + n) _ := hr0
  (dss_cons (ds_set (i := 3) sc_evaluate.nd rfl (.inl rfl) (de_ix ix_D (dv 0) de_int (fun _ _ => rfl)))
    (dss_cons (ds_if (dt_cmp (op_eqD' hr.units) (dv 3) de_str (nomark _)) (dss_one (ds_ret (de_ix ix_D (dv 2) (de_call (ok_column_index T) (hr.mono (by omega)) (by rfl) T.m_column_index T.F_column_index.kp (bd_column_index T) (by rfl) (da_cs (dv 1) (da_cs (de_ix ix_D (dv 0) de_int (fun _ _ => rfl)) da_nl)) (len_cons (len_cons len_nil))) (fun _ _ => rfl)))) dss_nil)
    (dss_cons (ds_if (dt_cmp (op_eqD' hr.units) (dv 3) de_str (nomark _)) (dss_one (ds_ret (de_ix ix_D (dv 0) de_int (fun _ _ => rfl)))) dss_nil)
    (dss_cons (ds_if (dt_cmp (op_eqD' hr.units) (dv 3) de_str (nomark _)) (dss_one (ds_ret (de_call (ih.2) (hr.mono (by omega)) (by rfl) T.m_evaluate_binary T.F_evaluate_binary.kp (bd_evaluate_binary T) (by rfl) (da_cs (dv 0) (da_cs (dv 1) (da_cs (dv 2) da_nl))) (len_cons (len_cons (len_cons len_nil)))))) dss_nil)
    (dss_cons (ds_set (i := 4) sc_evaluate.nd rfl (.inl rfl) (de_call (ih.1) (hr.mono (by omega)) (by rfl) T.m_evaluate T.F_evaluate.kp (bd_evaluate T) (by rfl) (da_cs (de_ix ix_D (dv 0) de_int (fun _ _ => rfl)) (da_cs (dv 1) (da_cs (dv 2) da_nl))) (len_cons (len_cons (len_cons len_nil)))))
    (dss_cons (ds_if (dt_cmp (op_eqD' hr.units) (dv 3) de_str (nomark _)) (dss_one (ds_ret (de_cmp op_isD (dv 4) de_non (nomark _)))) dss_nil)
    (dss_cons (ds_if (dt_cmp (op_eqD' hr.units) (dv 3) de_str (nomark _)) (dss_cons (ds_if (dt_cmp op_isE (dv 4) de_bl (nomark _)) (dss_one (ds_ret (de_call (ih.1) (hr.mono (by omega)) (by rfl) T.m_evaluate T.F_evaluate.kp (bd_evaluate T) (by rfl) (da_cs (de_ix ix_D (dv 0) de_int (fun _ _ => rfl)) (da_cs (dv 1) (da_cs (dv 2) da_nl))) (len_cons (len_cons (len_cons len_nil)))))) dss_nil)
    (dss_one (ds_ret (de_call (ih.1) (hr.mono (by omega)) (by rfl) T.m_evaluate T.F_evaluate.kp (bd_evaluate T) (by rfl) (da_cs (de_ix ix_D (dv 0) de_int (fun _ _ => rfl)) (da_cs (dv 1) (da_cs (dv 2) da_nl))) (len_cons (len_cons (len_cons len_nil))))))) dss_nil)
    (dss_cons (ds_if (dt_cmp op_isD (dv 4) de_non (nomark _)) (dss_one (ds_ret de_non)) dss_nil)
    (dss_cons (ds_if (dt_cmp (op_eqD' hr.units) (dv 3) de_str (nomark _)) (dss_one (ds_ret (de_not (dv 4)))) dss_nil)
    (dss_one (ds_ret (de_callB call_lenD (by rfl) T.z_len bb_len (da_cs (dv 4) da_nl))))))))))))),
    fn_V (N := N_evaluate_binary) (g := g_evaluate_binary (fuel_evaluate n).1 (fuel_evaluate n).2) T.F_evaluate_binary sc_evaluate_binary fun cdv A outer s H E hr0 =>
  have hr : Room (3 + n) _ := hr0
  (dss_cons (ds_set (i := 3) sc_evaluate_binary.nd rfl (.inl rfl) (de_ix ix_D (dv 0) de_int (fun _ _ => rfl)))
    (dss_cons (ds_set (i := 4) sc_evaluate_binary.nd rfl (.inl rfl) (de_call (ih.1) (hr.mono (by omega)) (by rfl) T.m_evaluate T.F_evaluate.kp (bd_evaluate T) (by rfl) (da_cs (de_ix ix_D (dv 0) de_int (fun _ _ => rfl)) (da_cs (dv 1) (da_cs (dv 2) da_nl))) (len_cons (len_cons (len_cons len_nil)))))
    (dss_cons (ds_set (i := 5) sc_evaluate_binary.nd rfl (.inl rfl) (de_call (ih.1) (hr.mono (by omega)) (by rfl) T.m_evaluate T.F_evaluate.kp (bd_evaluate T) (by rfl) (da_cs (de_ix ix_D (dv 0) de_int (fun _ _ => rfl)) (da_cs (dv 1) (da_cs (dv 2) da_nl))) (len_cons (len_cons (len_cons len_nil)))))
    (dss_cons (ds_if (dt_bool (dt_or (dt_cmp (op_eqD' hr.units) (dv 3) de_str (nomark _)) (dt_or1 (dt_cmp (op_eqD' hr.units) (dv 3) de_str (nomark _))))) (dss_cons (ds_set (i := 6) sc_evaluate_binary.nd rfl (.inl rfl) (de_cmp (op_eqD' hr.units) (dv 3) de_str (nomark _)))
    (dss_cons (ds_if (dt_bool (dt_or (dt_cmp (op_eqD' hr.units) (dv 4) (dv 6) (nomark _)) (dt_or1 (dt_cmp (op_eqD' hr.units) (dv 5) (dv 6) (nomark _))))) (dss_one (ds_ret (dv 6))) dss_nil)
    (dss_cons (ds_if (dt_bool (dt_or (dt_cmp op_isD (dv 4) de_non (nomark _)) (dt_or1 (dt_cmp op_isD (dv 5) de_non (nomark _))))) (dss_one (ds_ret de_non)) dss_nil)
    (dss_one (ds_ret (de_not (dv 6))))))) dss_nil)
    (dss_cons (ds_if (dt_bool (dt_or (dt_cmp op_isD (dv 4) de_non (nomark _)) (dt_or1 (dt_cmp op_isD (dv 5) de_non (nomark _))))) (dss_one (ds_ret de_non)) dss_nil)
    (dss_one (ds_ret (de_call (ok_reckon T) (hr.mono (by omega)) (by rfl) T.m_reckon T.F_reckon.kp (bd_reckon T) (by rfl) (da_cs (dv 3) (da_cs (dv 4) (da_cs (dv 5) da_nl))) (len_cons (len_cons (len_cons len_nil)))))))))))⟩
theorem ok_evaluate : FnOk P w K mg base CX0 18 T.a_evaluate T.d_evaluate ["expression", "fields", "row"] (spV ⟨K, P, w⟩ 3 f_evaluate) := (okr_evaluate T 15).1
theorem bd_substituted : Binds K T.d_substituted ["expression", "mapping"] [] := T.F_substituted.binds (ps := ["expression", "mapping"]) fun _ _ _ _ _ _ us hl => match us, hl with | [_, _], _ => rfl
theorem okr_substituted : ∀ n : Nat, FnOk P w K mg base CX0 (2 + n) T.a_substituted T.d_substituted ["expression", "mapping"] (spV ⟨K, P, w⟩ 2 (fuel_substituted n))
  | 0 => fn_V (N := N_substituted) (g := sFail) T.F_substituted sc_substituted fun cdv A outer s H E hr => dss_fail
  | n + 1 =>
    have ih := okr_substituted n
    fn_V (N := N_substituted) (g := g_substituted (fuel_substituted n)) T.F_substituted sc_substituted fun cdv A outer s H E hr0 =>
  have hr : Room (2 + n) _ := hr0
  (dss_cons (ds_if (dt_cmp (op_eqD' hr.units) (de_ix ix_D (dv 0) de_int (fun _ _ => rfl)) de_str (nomark _)) (dss_one (ds_ret (de_getU (in65 hr) (dv 1) (de_ix ix_D (dv 0) de_int (fun _ _ => rfl)) (dv 0) ⟨rfl, rfl, rfl, rfl⟩))) dss_nil)
    (dss_cons (ds_if (dt_cmp (op_eqD' hr.units) (de_ix ix_D (dv 0) de_int (fun _ _ => rfl)) de_str (nomark _)) (dss_one (ds_ret (dv 0))) dss_nil)
    (dss_cons (ds_lcO (i := 2) (ps_setLc (i := 2) (own := [("part", 3)]) (by rfl) sc_substituted.nd rfl rfl (sw_true rfl rfl rfl (by decide +kernel)) (di_seq (de_call (ok_parts_of T) (hr.mono (by omega)) (by rfl) T.m_parts_of T.F_parts_of.kp (bd_parts_of T) (by rfl) (da_cs (dv 0) da_nl) (len_cons len_nil))) (blkOk_by (own := [("part", 3)]) (N := N_substituted) (sc := defScope s_substituted) (by decide +kernel)) (fun _ _ _ _ _ => (dg_name (i := 3) sc_substituted.nd rfl (by first | exact .inl rfl | exact .inr rfl))) (fun _ _ _ _ _ => dts_nil) (fun _ _ _ _ _ => (de_call (ih) (hr.mono (by omega)) (by rfl) T.m_substituted T.F_substituted.kp (bd_substituted T) (by rfl) (da_cs (dv 3) (da_cs (dv 1) da_nl)) (len_cons (len_cons len_nil))))))
    (dss_cons (ds_if (dt_cmp (op_eqD' hr.units) (de_ix ix_D (dv 0) de_int (fun _ _ => rfl)) de_str (nomark _)) (dss_one (ds_ret (de_tup (da_cs de_str (da_cs (de_ix ix_D (dv 0) de_int (fun _ _ => rfl)) (da_cs (db_ix 2 de_int) (da_cs (db_ix 2 de_int) da_nl))))))) dss_nil)
    (dss_one (ds_ret (de_bin op_addD (de_tup (da_cs (de_ix ix_D (dv 0) de_int (fun _ _ => rfl)) da_nl)) (de_callTy call_tupD (by rfl) T.z_tuple bt_tuple (da_cs (dz 2) da_nl)))))))))
theorem ok_substituted : FnOk P w K mg base CX0 11 T.a_substituted T.d_substituted ["expression", "mapping"] (spV ⟨K, P, w⟩ 2 f_substituted) := (okr_substituted T 9)
theorem ok_law (hm : ∃ mm, base.Ns sysModules mm) (cdv : Value) (s : Shared) (H : Hp) (E : XK) : DSs (cxOf CX0 P w K mg base N_law "law" (defScope s_law) T.a_law cdv callerA [] s H E).nox (defBody s_law) g_law :=
  have hr : Room 18 (callerA.deeper (envOfC "law" (defScope s_law) s.heap.objs.size T.a_law cdv)) := Room.deeper (k := 18) ⟨rfl, by decide, by decide⟩ _
  (dss_cons (ds_for PassesOwn.never rfl (di_rng1 (by rfl) T.z_range (da_cs (de_callB (call_minD rfl) (by rfl) T.z_min bb_min (da_cs de_int (da_cs (de_callB (call_maxD rfl) (by rfl) T.z_max bb_max (da_cs de_int (da_cs (de_bin op_fdivD (de_callB call_lenD (by rfl) T.z_len bb_len (da_cs (dv 0) da_nl)) de_int) da_nl))) da_nl))) da_nl)) (dg_name (i := 1) sc_law.nd rfl (.inl rfl)) (dss_cons (ds_own (i := 2) sc_law.nd rfl (.inl rfl) (df_call (ok__law_start T) (hr.mono (by decide)) (by rfl) T.m__law_start T.F__law_start.kp (bd__law_start T) (by rfl) (da_cs (de_call (ok__law_cell T) (hr.mono (by decide)) (by rfl) T.m__law_cell T.F__law_cell.kp (bd__law_cell T) (by rfl) (da_cs (dv 0) (da_cs (de_bin op_mulD de_int (dv 1)) da_nl)) (len_cons (len_cons len_nil))) (da_cs (dv 1) da_nl)) (len_cons (len_cons len_nil))))
    (dss_cons (ds_set (i := 3) sc_law.nd rfl (by first | exact .inr rfl | exact .inl rfl) (db_io 2 (ok__law_four T) (hr.mono (by decide)) (by rfl) T.m__law_four T.F__law_four.kp (bd__law_four T) da_nl len_nil))
    (dss_cons (ds_set (i := 4) sc_law.nd rfl (.inl rfl) (de_ix ix_D (df_de (df_lst (da_cs de_str (da_cs de_str (da_cs de_str (da_cs de_str da_nl)))))) (db_io 2 (ok__law_digit T) (hr.mono (by decide)) (by rfl) T.m__law_digit T.F__law_digit.kp (bd__law_digit T) (da_cs de_int da_nl) (len_cons len_nil)) (fun _ _ => rfl)))
    (dss_cons (ds_set (i := 5) sc_law.nd rfl (.inl rfl) (db_io 2 (ok__law_expression T) (hr.mono (by decide)) (by rfl) T.m__law_expression T.F__law_expression.kp (bd__law_expression T) (da_cs (de_bin op_addD de_int (db_io 2 (ok__law_digit T) (hr.mono (by decide)) (by rfl) T.m__law_digit T.F__law_digit.kp (bd__law_digit T) (da_cs de_int da_nl) (len_cons len_nil))) (da_cs (dv 3) (da_cs (dv 4) da_nl))) (len_cons (len_cons (len_cons len_nil)))))
    (dss_cons (ds_if (dt_cmp (op_neD' hr.units) (de_call (ok_columns_of T) (hr.mono (by decide)) (by rfl) T.m_columns_of T.F_columns_of.kp (bd_columns_of T) (by rfl) (da_cs (dv 5) da_nl) (len_cons len_nil)) (de_call (ok__law_columns T) (hr.mono (by decide)) (by rfl) T.m__law_columns T.F__law_columns.kp (bd__law_columns T) (by rfl) (da_cs (dv 5) da_nl) (len_cons len_nil)) (nomark _)) (dss_one (ds_ret de_bl)) dss_nil)
    (dss_cons (ds_own (i := 2) sc_law.nd rfl (.inl rfl) (df_call (ok__law_start T) (hr.mono (by decide)) (by rfl) T.m__law_start T.F__law_start.kp (bd__law_start T) (by rfl) (da_cs (de_call (ok__law_cell T) (hr.mono (by decide)) (by rfl) T.m__law_cell T.F__law_cell.kp (bd__law_cell T) (by rfl) (da_cs (dv 0) (da_cs (de_bin op_addD (de_bin op_mulD de_int (dv 1)) de_int) da_nl)) (len_cons (len_cons len_nil))) (da_cs (dv 1) da_nl)) (len_cons (len_cons len_nil))))
    (dss_cons (ds_newT (i := 6) sc_law.nd rfl (by first | exact .inr rfl | exact .inl rfl))
    (dss_cons (ds_for PassesOwn.never rfl (di_seq (dv 3)) (dg_name (i := 7) sc_law.nd rfl (.inl rfl)) (dss_one (ds_if (dt_cmp op_gtD (db_io 2 (ok__law_digit T) (hr.mono (by decide)) (by rfl) T.m__law_digit T.F__law_digit.kp (bd__law_digit T) (da_cs de_int da_nl) (len_cons len_nil)) de_int (nomark _)) (dss_one (ds_setT 6 (in65 hr) (db_io 2 (ok__law_expression T) (hr.mono (by decide)) (by rfl) T.m__law_expression T.F__law_expression.kp (bd__law_expression T) (da_cs de_int (da_cs (dv 3) (da_cs (de_ix ix_D (dv 7) de_int (fun _ _ => rfl)) da_nl))) (len_cons (len_cons (len_cons len_nil)))) (de_ix ix_D (dv 7) de_int (fun _ _ => rfl)))) dss_nil)))
    (dss_cons (ds_set (i := 8) sc_law.nd rfl (.inl rfl) (de_callB (call_reprU hm rfl (in65 hr)) (by rfl) T.z_repr bb_repr (da_cs (df_de (df_lst (da_cs (dv 5) (da_cs (de_frzT 6) da_nl)))) da_nl)))
    (dss_cons (ds_set (i := 9) sc_law.nd rfl (.inl rfl) (de_call (ok_substituted T) (hr.mono (by decide)) (by rfl) T.m_substituted T.F_substituted.kp (bd_substituted T) (by rfl) (da_cs (dv 5) (da_cs (de_frzT 6) da_nl)) (len_cons (len_cons len_nil))))
    (dss_cons (ds_if (dt_bool (dt_or (dt_cmp (op_neD' hr.units) (de_call (ok_substituted T) (hr.mono (by decide)) (by rfl) T.m_substituted T.F_substituted.kp (bd_substituted T) (by rfl) (da_cs (dv 5) (da_cs de_dicE da_nl)) (len_cons (len_cons len_nil))) (dv 5) (nomark _)) (dt_or1 (dt_cmp (op_neD' hr.units) (de_callB (call_reprU hm rfl (in65 hr)) (by rfl) T.z_repr bb_repr (da_cs (df_de (df_lst (da_cs (dv 5) (da_cs (de_frzT 6) da_nl)))) da_nl)) (dv 8) (nomark _))))) (dss_one (ds_ret de_bl)) dss_nil)
    (dss_cons (ds_if (dt_not (dt_tru (de_ix ix_D (de_call (ok__law_typed T) (hr.mono (by decide)) (by rfl) T.m__law_typed T.F__law_typed.kp (bd__law_typed T) (by rfl) (da_cs (dv 5) (da_cs (dv 3) da_nl)) (len_cons (len_cons len_nil))) de_int (fun _ _ => rfl)))) (dss_one ds_cont) dss_nil)
    (dss_cons (ds_lcO (i := 10) (ps_setLc (i := 10) (own := [("field", 7)]) (by rfl) sc_law.nd rfl rfl (sw_true rfl rfl rfl (by decide +kernel)) (di_seq (dv 3)) (blkOk_by (own := [("field", 7)]) (N := N_law) (sc := defScope s_law) (by decide +kernel)) (fun _ _ _ _ _ => (dg_name (i := 7) sc_law.nd rfl (by first | exact .inl rfl | exact .inr rfl))) (fun _ _ _ _ _ => (dts_one (dt_cmp (op_inU (in65 hr)) (de_ix ix_D (dv 7) de_int (fun _ _ => rfl)) (de_frzT 6) (by rfl)))) (fun _ _ _ _ _ => (de_cmp (op_eqD' hr.units) (de_call (ok__law_typed T) (hr.mono (by decide)) (by rfl) T.m__law_typed T.F__law_typed.kp (bd__law_typed T) (by rfl) (da_cs (de_ix (ix_U hr.units) (de_frzT 6) (de_ix ix_D (dv 7) de_int (fun _ _ => rfl)) (fun _ _ => rfl)) (da_cs (dv 3) da_nl)) (len_cons (len_cons len_nil))) (de_tup (da_cs (de_ix ix_D (dv 7) de_int (fun _ _ => rfl)) (da_cs de_bl da_nl))) (nomark _)))))
    (dss_cons (ds_if (dbt_in 10 (in65 hr) de_bl) (dss_one ds_cont) dss_nil)
    (dss_cons (ds_if (dt_not (dt_tru (de_ix ix_D (de_call (ok__law_typed T) (hr.mono (by decide)) (by rfl) T.m__law_typed T.F__law_typed.kp (bd__law_typed T) (by rfl) (da_cs (dv 9) (da_cs (dv 3) da_nl)) (len_cons (len_cons len_nil))) de_int (fun _ _ => rfl)))) (dss_one (ds_ret de_bl)) dss_nil)
    (dss_one (ds_for PassesOwn.never rfl (di_rng1 (by rfl) T.z_range (da_cs de_int da_nl)) (dg_name (i := 11) sc_law.nd rfl (.inl rfl)) (dss_cons (ds_set (i := 12) sc_law.nd rfl (.inl rfl) (db_io 2 (ok__law_row T) (hr.mono (by decide)) (by rfl) T.m__law_row T.F__law_row.kp (bd__law_row T) (da_cs (dv 3) da_nl) (len_cons len_nil)))
    (dss_cons (ds_own (i := 13) sc_law.nd rfl (.inl rfl) (df_lst da_nl))
    (dss_cons (ds_for PassesOwn.never rfl (di_rng1 (by rfl) T.z_range (da_cs (de_callB call_lenD (by rfl) T.z_len bb_len (da_cs (dv 3) da_nl)) da_nl)) (dg_name (i := 14) sc_law.nd rfl (.inl rfl)) (dss_cons (ds_set (i := 15) sc_law.nd rfl (.inl rfl) (de_ix ix_D (dv 12) (dv 14) (fun _ _ => rfl)))
    (dss_cons (ds_if (dt_cmp (op_inU (in65 hr)) (de_ix ix_D (de_ix ix_D (dv 3) (dv 14) (fun _ _ => rfl)) de_int (fun _ _ => rfl)) (de_frzT 6) (by rfl)) (dss_one (ds_set (i := 15) sc_law.nd rfl (.inl rfl) (de_call (ok_evaluate T) (hr.mono (by decide)) (by rfl) T.m_evaluate T.F_evaluate.kp (bd_evaluate T) (by rfl) (da_cs (de_ix (ix_U hr.units) (de_frzT 6) (de_ix ix_D (de_ix ix_D (dv 3) (dv 14) (fun _ _ => rfl)) de_int (fun _ _ => rfl)) (fun _ _ => rfl)) (da_cs (dv 3) (da_cs (dv 12) da_nl))) (len_cons (len_cons (len_cons len_nil)))))) dss_nil)
    (dss_one (ds_app 13 (pe_bm PySem.F.plainAttrs_list PySem.F.slot_list_append PySem.F.type_list_append mt_append (pv 13) (pa_cons (dv 15) pa_nil)))))))
    (dss_cons (ds_set (i := 16) sc_law.nd rfl (.inl rfl) (de_call (ok_evaluate T) (hr.mono (by decide)) (by rfl) T.m_evaluate T.F_evaluate.kp (bd_evaluate T) (by rfl) (da_cs (dv 9) (da_cs (dv 3) (da_cs (dv 12) da_nl))) (len_cons (len_cons (len_cons len_nil)))))
    (dss_cons (ds_set (i := 17) sc_law.nd rfl (.inl rfl) (de_call (ok_evaluate T) (hr.mono (by decide)) (by rfl) T.m_evaluate T.F_evaluate.kp (bd_evaluate T) (by rfl) (da_cs (dv 5) (da_cs (dv 3) (da_cs (de_callTy call_tupD (by rfl) T.z_tuple bt_tuple (da_cs (dz 13) da_nl)) da_nl))) (len_cons (len_cons (len_cons len_nil)))))
    (dss_one (ds_if (dt_bool (dt_or (dt_cmp (op_neD' hr.units) (de_call (ok__law_rank T) (hr.mono (by decide)) (by rfl) T.m__law_rank T.F__law_rank.kp (bd__law_rank T) (by rfl) (da_cs (dv 16) da_nl) (len_cons len_nil)) (de_call (ok__law_rank T) (hr.mono (by decide)) (by rfl) T.m__law_rank T.F__law_rank.kp (bd__law_rank T) (by rfl) (da_cs (dv 17) da_nl) (len_cons len_nil)) (nomark _)) (dt_or (dt_tru (de_call (ok__law_before T) (hr.mono (by decide)) (by rfl) T.m__law_before T.F__law_before.kp (bd__law_before T) (by rfl) (da_cs (dv 16) (da_cs (dv 17) da_nl)) (len_cons (len_cons len_nil)))) (dt_or1 (dt_tru (de_call (ok__law_before T) (hr.mono (by decide)) (by rfl) T.m__law_before T.F__law_before.kp (bd__law_before T) (by rfl) (da_cs (dv 17) (da_cs (dv 16) da_nl)) (len_cons (len_cons len_nil)))))))) (dss_one (ds_ret de_bl)) dss_nil)))))))))))))))))))))))))
    (dss_one (ds_ret de_bl)))
end
end Lw
set_option maxHeartbeats 4000000
namespace Lw
open PySem Dn Dm DnSo
local macro_rules | `(tactic| simp! [$xs,*]) => `(tactic| simp (maxSteps := 4000000) only [backE, wipeE, wo_some, wo_none, wm_c, wm_var, wm_frz, wm_bin, wm_un, wm_tst, wm_tru, wm_truB, wm_chain, wm_and, wm_or, wm_not, wm_andV, wm_orV, wm_notV, wm_ifE, wm_nil, wm_cons, wm_app, wm_noP, wm_part, wm_sl, wm_pk, wm_io, wm_ix, wm_inB, wm_true, wm_seq, wm_rng1, wm_rng2,
    then_nx, then_ret, then_rof, then_brk, then_cnt, ws_next, ws_brk, ws_cnt, ws_seq, ws_if, ws_ret, ws_rof, ws_drop, ws_set, ws_own, ws_asg, wo_TN, wo_TNil, wo_TCons, wo_TTup, ws_ap, ws_setIx, ws_for, for_nil, turn_nx, turn_cnt, turn_brk, turn_ret, turn_rof, wm_lc, end_ret, end_nx, end_rof, end_io, ownOf_own, valOf_val, frz_val, frz_own, frz_ownD, ixO_l, ixO_d, cOwn_own, peek_val, peek_own, peek_ownD, by_val, by_own, canSet_none, canSet_val, canSet_own, lstOf_list,
    List.getElem?_cons_zero, List.getElem?_cons_succ, List.set_cons_zero, List.set_cons_succ, List.length_cons, List.length_nil, wo_ite, wo_bind, ↓reduceIte, and_true, true_and, and_self, Bool.false_eq_true, Bool.not_true, Bool.not_false, decide_eq_true_eq, decide_true, decide_false, oneInt_int, twoInts_int,
    add_ii, add_ll, add_tt, add_ss, sub_ii, mul_ii, mulS_ii, mod_ii, fdiv_ii, neg_i, le_ii, gt_ii, ge_ii, eqT_ii, eqT_ss, eqT_bb, eqT_nn, ltT_ii, ltT_ss, wo_eqD, wo_neD, wo_ltD, wo_inD, wo_ninD, is_n, isnt_n, is_bb, isnt_bb, isN, bOf_b, iOf_i, tru_b, tru_n, tru_i, tru_l, tru_t, seq_l, seq_t, tup_l, tup_t, lst_l, lst_t, len_l, len_t, int_i, int_b, abs_i, max_ii, min_ii, ix_li, ix_ti, cut_l, cut_t, flat_i, flat_b, flat_s, ix0, ix1, ix2, mkTup, mkLst,
    add2_ll, ws_par3, three_c, ws_grp, empty_own, lOwnD_own, wm_lcW, wm_getD, wm_ind, ix3, ix4, ix_m2, ix_m1, ix_p2, ix_p1, wm_newD, ws_setK, wm_get, wm_ixK, wm_sortN, ws_ext, dOwn_own, lOwn_own, lsD_list, step_nx, step_cnt, step_brk, step_ret, step_rof, wm_reve, rev_l, rev_t, wm_opBL, repr_l, sort_l, sum_l, wm_enum, enum_l, enum_t, enumL_nil, wm_dic, wm_kvn, wm_kvc, seq_s, mulT_si, len_s, ord_c, str_i, ty_d, k_lb, k_li, k_ls, k_tb, k_ti, k_ts, k_db, k_di, k_ds, k_lt, k_tl,
    isi_1, tyOk_n, tyOk_b, tyOk_i, tyOk_s, tyOk_l, tyOk_t, ty_n, ty_b, ty_i, ty_s, ty_l, ty_t, k_nb, k_bb, k_ib, k_sb, k_ni, k_bi, k_ii, k_si, k_ns, k_bs, k_is, k_ss, k_ll, k_tt,
    Int.reduceNeg, Int.reducePow, Int.reduceLT, Int.reduceLE, Int.reduceAdd, Int.reduceSub, Int.reduceMul, Int.reduceToNat, Nat.reduceAdd, Nat.reduceLeDiff, Nat.reduceEqDiff, Int.reduceEq, reduceCtorEq, ws_grpL, empty_ownL, wo_TLst, wg_P, wg_end, wg_then, theng_nx, wg_yield, wm_callG, wo_runG, List.nil_append, wx_okD, wx_okL, wx_okB, wx_okS, wx_cons, wx_call, wx_app, wx_bin, wx_tst, wx_not, wx_ite, thenx_nx, thenx_ret, thenx_rof, thenx_brk, thenx_cnt, wx_seq, wx_if, wx_ret, wx_drop, wx_set, wx_apd, ownL_own, wx_raise, strOf_s, wx_for, ws_noX, wx_tryA, wx_try, retq_ret, either_l, either_r, endq_nx, endq_ret, hL_hd, gL_hd, wo_runX, wx_own, wl_nil, wl_cons, wx_lc, wm_keys, wm_callIOF, $xs,*])
theorem sp_digit (n m : Int) (h : 0 < m ∧ m < 1073741824) : f__law_digit (.list [.int n]) [.int m] = some (.int (n % m), .list [.int (n / m)]) := by
  rw [← wo_eq]
  unfold f__law_digit
  rw [wo_runIO]
  show Ws g__law_digit [some (.own true (.list [.int n])), some (.val (.int m)), none] _
  unfold g__law_digit
  have h' : 0 < m ∧ m < 18446744073709551616 := ⟨h.1, by omega⟩
  simp! []
  simp only [wo_some, h', h'.1, ↓reduceIte, and_self]
  simp [ixS, wo_some]
theorem wo_valueT {n : Int} {k : Str} {Q : D × D → Prop} (q : ∀ d n', gv d → (kd k → tyB k d = true) → isV d = true → Q (d, .list [.int n'])) : Wo (f__law_value (.list [.int n]) [.str k]) Q := by
  unfold f__law_value
  rw [wo_runIO]
  show Ws g__law_value [some (.own true (.list [.int n])), some (.val (.str k)), none] _
  unfold g__law_value
  simp! [sp_digit]
  split
  · exact q _ _ gv_none (fun _ => rfl) rfl
  split
  · rename_i hk
    exact q _ _ (gv_bool _) (fun _ => decide_eq_true hk) rfl
  rename_i hk1
  split
  · rename_i hk
    split
    · exact q _ _ (gv_int _) (fun _ => decide_eq_true hk) (isV_int (by omega))
    split
    · exact q _ _ (gv_int _) (fun _ => decide_eq_true hk) (isV_int (by omega))
    refine wo_ix (by omega) (by simp only [List.length_cons, List.length_nil]; omega) ?_
    intro x hx
    simp only [List.mem_cons, List.not_mem_nil, or_false] at hx
    rcases hx with rfl | rfl | rfl <;> exact q _ _ (gv_int _) (fun _ => decide_eq_true hk) (by decide)
  · rename_i hk2
    refine wo_ix (by omega) (by simp only [List.length_cons, List.length_nil]; omega) ?_
    intro x hx
    simp only [List.mem_cons, List.not_mem_nil, or_false] at hx
    have ht : kd k → k = "text" := fun h => (h.resolve_left hk1).resolve_left hk2
    rcases hx with rfl | rfl | rfl | rfl | rfl | rfl | rfl | rfl <;> exact q _ _ ⟨rfl, by decide +kernel⟩ (fun h => decide_eq_true (ht h)) (by decide +kernel)
theorem wo_rowT {n : Int} {ps : List (Str × Str)} {fd : D} {Q : D × D → Prop} (hs : seqOf fd = some (ps.map fdD)) (hk : ∀ p ∈ ps, kd p.2) (hl : ps.length ≤ 1000) (q : ∀ vs n', fitsB vs ps = true → (∀ v ∈ vs, gv v) → (∀ v ∈ vs, isV v = true) → Q (.tuple vs, .list [.int n'])) : Wo (f__law_row (.list [.int n]) [fd]) Q := by
  unfold f__law_row
  rw [wo_runIO]
  show Ws g__law_row [some (.own true (.list [.int n])), some (.val fd), none] _
  unfold g__law_row
  simp! [sp_digit, hs, List.length_map]
  refine ⟨⟨by omega, rfl⟩, ?_⟩
  refine lc_inv (fun p a ρ => ∃ n' qs, ρ = [some (.own true (.list [.int n'])), some (.val fd), none] ∧ p = qs.map fdD ∧ fitsB a qs = true ∧ (∀ v ∈ a, gv v) ∧ ∀ v ∈ a, isV v = true) (ps.map fdD) [] [] _ ⟨n, [], rfl, rfl, rfl, by simp, by simp⟩ ?_ ?_
  · rintro p d r a ρ e ⟨n', qs, rfl, rfl, hf, hga, hva⟩
    obtain ⟨pk, hpk, rfl⟩ : ∃ pk ∈ ps, d = fdD pk := by
      have : d ∈ ps.map fdD := by rw [show ps.map fdD = qs.map fdD ++ d :: r from e]; simp
      obtain ⟨pk, h1, h2⟩ := List.mem_map.mp this
      exact ⟨pk, h1, h2.symm⟩
    simp! [sp_digit, fdD]
    refine wo_valueT fun d n2 hd hty hvd => ?_
    refine ⟨n2, qs ++ [pk], rfl, by simp [fdD], fits_snoc hf (hty (hk pk hpk)), fun v hv => ?_, fun v hv => ?_⟩ <;> rcases List.mem_append.mp hv with h | h
    · exact hga v h
    · rw [List.mem_singleton.mp h]
      exact hd
    · exact hva v h
    · rw [List.mem_singleton.mp h]
      exact hvd
  · rintro a ρ' ⟨n', qs, rfl, he, hf, hga, hva⟩
    have e2 : qs = ps := fdD_inj (by simpa using he.symm)
    subst e2
    show Wo (some (PyData.list [.int n'])) _
    rw [wo_some]
    exact q _ _ hf hga hva
theorem wo_start {c k : Int} {Q : D → Prop} (q : ∀ n : Int, Q (.list [.int n])) : Wo (f__law_start [.int c, .int k]) Q := by
  unfold f__law_start
  rw [wo_runF]
  show Ws g__law_start [some (.val (.int c)), some (.val (.int k)), none, none, none, none] _
  unfold g__law_start
  simp! [sp_digit]
  split
  · split
    · rw [if_pos (by decide)]
      have e4 : rngL 0 4 = [.int 0, .int 1, .int 2, .int 3] := rfl
      rw [e4]
      refine ws_forall (fun p ρ => ∃ (m num : Int) (o : Option Cell), canSet (some o) = some () ∧ 0 ≤ m ∧ m < 2 ^ 89 ∧ 0 ≤ num ∧ num < 2 ^ (90 * p.length + 1) ∧ ρ = [some (.val (.int c)), some (.val (.int k)), some (.val (.int 618970019642690137449562111)), some (.val (.int m)), some (.val (.int num)), o]) ⟨_, 0, none, rfl, Int.emod_nonneg _ (by decide), Int.lt_of_lt_of_le (Int.emod_lt_of_pos _ (by decide)) (by decide), by decide, by decide, rfl⟩ ?_ ?_
      · rintro p d r ρ e ⟨m, num, o, ho, hm0, hm1, hn0, hn1, rfl⟩
        have hp : p.length ≤ 3 := by
          have := congrArg List.length e
          simp at this
          omega
        obtain ⟨t, rfl⟩ : ∃ t : Int, d = .int t := by
          have hd : d ∈ ([.int 0, .int 1, .int 2, .int 3] : List D) := by rw [e]; simp
          simp only [List.mem_cons, List.not_mem_nil, or_false] at hd
          rcases hd with rfl | rfl | rfl | rfl <;> exact ⟨_, rfl⟩
        have hmn := nab hm0 hm1
        have hnn := nab hn0 hn1
        have g1 : m.natAbs.log2 + m.natAbs.log2 < 1000000 := log_ok _ _ hmn hmn (by omega)
        have g2 : (7 : Int).natAbs.log2 + m.natAbs.log2 < 1000000 := log_ok 4 _ (by decide) hmn (by omega)
        have g3 : num.natAbs.log2 + (618970019642690137449562111 : Int).natAbs.log2 < 1000000 := log_ok _ 90 hnn (by decide) (by omega)
        simp! [g1, g2, g3, ho]
        have hr0 := Int.emod_nonneg (m * m + 7 * m + k + t) (show (618970019642690137449562111 : Int) ≠ 0 by decide)
        have hr1 := Int.emod_lt_of_pos (m * m + 7 * m + k + t) (show (0 : Int) < 618970019642690137449562111 by decide)
        generalize (m * m + 7 * m + k + t) % 618970019642690137449562111 = m' at hr0 hr1 ⊢
        refine ⟨.inl trivial, m', num * 618970019642690137449562111 + m', _, rfl, hr0, Int.lt_of_lt_of_le hr1 (by decide), ?_, ?_, rfl⟩
        · have := Int.mul_nonneg hn0 (show (0 : Int) ≤ 618970019642690137449562111 by decide)
          omega
        · rw [List.length_append]
          show _ < (2 : Int) ^ (90 * (p.length + 1) + 1)
          have h2 : (2 : Int) ^ (90 * (p.length + 1) + 1) = 2 ^ (90 * p.length + 1) * 2 ^ 90 := by rw [← Int.pow_add]; congr 1
          rw [h2]
          have h3 : num * 618970019642690137449562111 ≤ (2 ^ (90 * p.length + 1) - 1) * 618970019642690137449562111 := Int.mul_le_mul_of_nonneg_right (by omega) (by decide)
          have h4 : (1 : Int) ≤ 2 ^ (90 * p.length + 1) := by omega
          generalize (2 : Int) ^ (90 * p.length + 1) = b at h3 h4 ⊢
          have h5 : (2 : Int) ^ 90 = 1237940039285380274899124224 := by decide
          rw [h5]
          omega
      · rintro ρ' ⟨m, num, o, _, _, _, _, _, rfl⟩
        simp! []
        exact q _
    · exact q _
  · exact q _
theorem wo_cell {ns : List Int} {k : Int} {Q : D → Prop} (hk : 0 ≤ k) (q : ∀ n : Int, Q (.int n)) : Wo (f__law_cell [.list (ns.map PyData.int), .int k]) Q := by
  unfold f__law_cell
  rw [wo_runV]
  show Ws g__law_cell [some (.val (.list (ns.map PyData.int))), some (.val (.int k))] _
  unfold g__law_cell
  simp! []
  split
  · rename_i h
    refine wo_ix hk (by simpa using h) fun x hx => ?_
    obtain ⟨n, _, rfl⟩ := List.mem_map.mp hx
    exact q n
  · exact q _
theorem sp_vo {d : D} (h : gv d) : f_value_order [d] = some (vo d) := by
  rw [← wo_eq]
  unfold f_value_order
  rw [wo_runV]
  show Ws g_value_order [some (.val d)] _
  unfold g_value_order
  rcases gv_cases h with rfl | ⟨b, rfl⟩ | ⟨i, rfl⟩ | ⟨s, rfl⟩ <;> simp! [vo]
theorem sp_rank {d : D} (h : gv d) : f__law_rank [d] = some (.int (rk d)) := by
  rw [← wo_eq]
  unfold f__law_rank
  rw [wo_runV]
  show Ws g__law_rank [some (.val d)] _
  unfold g__law_rank
  rcases gv_cases h with rfl | ⟨b, rfl⟩ | ⟨i, rfl⟩ | ⟨s, rfl⟩ <;> simp! [rk]
theorem sp_before {a b : D} (ha : gv a) (hb : gv b) : f__law_before [a, b] = some (.bool (ltV a b)) := by
  rw [← wo_eq]
  unfold f__law_before
  rw [wo_runV]
  show Ws g__law_before [some (.val a), some (.val b)] _
  unfold g__law_before
  simp! [sp_rank ha, sp_rank hb]
  unfold ltV
  by_cases h : rk a = rk b
  · simp only [h, decide_true, Bool.not_true, Bool.false_eq_true, ↓reduceIte, ne_eq, not_true_eq_false]
    rcases gv_cases ha with rfl | ⟨p, rfl⟩ | ⟨i, rfl⟩ | ⟨s, rfl⟩ <;> rcases gv_cases hb with rfl | ⟨q, rfl⟩ | ⟨j, rfl⟩ | ⟨t, rfl⟩ <;> simp only [rk] at h ⊢ <;> first | (exfalso; (repeat' split at h) <;> omega) | skip
    · simp
    · cases q <;> simp
    · simp! []
    · simp! []
  · simp [h]
theorem col_loop {x : Str} : ∀ (ps : List (Str × Str)) (i : Nat) (f o1 o2 : Option Cell), canSet (some o1) = some () → canSet (some o2) = some () →
    Ws (forD (gTTup 2 (gTCons (gTN 2) (gTCons (gTN 3) gTNil))) (sIf (gTst (gBin eqD (gBin ixD (gVar 3) (gC (.int 0))) (gVar 1))) (sRet (gVar 2)) sNext) (enumL i (ps.map fdD)))
      [f, some (.val (.str x)), o1, o2] (thenQ (sRet (gC .none)) fun f ρ => Wo (endV (f, ρ)) fun r => r = colAt i ps x)
  | [], i, f, o1, o2, h1, h2 => by
    rw [List.map_nil, enumL_nil]
    simp! []
    all_goals rfl
  | p :: ps, i, f, o1, o2, h1, h2 => by
    rw [List.map_cons, enumL_cons, for_cons]
    have ih := col_loop (x := x) ps (i + 1) f (some (.val (.int i))) (some (.val (fdD p))) rfl rfl
    unfold fdD at ih ⊢
    simp! [h1, h2]
    rw [colAt]
    split
    · rfl
    · exact ih
theorem sp_column {ps : List (Str × Str)} {fd : D} {x : Str} (hs : enumOf [fd] = some (enumL 0 (ps.map fdD))) : f_column_index [fd, .str x] = some (colAt 0 ps x) := by
  rw [← wo_eq]
  unfold f_column_index
  rw [wo_runV]
  show Ws g_column_index [some (.val fd), some (.val (.str x)), none, none] _
  unfold g_column_index
  simp! [hs]
  exact col_loop ps 0 _ _ _ rfl rfl
theorem str_iff {a b : String} : (Str.ofString a = Str.ofString b) = (a = b) := propext ⟨ofString_inj, fun h => by rw [h]⟩
inductive Sg where
  | and | or | eq | lt | le | add | sub | mul | div
def sgS : Sg → Str
  | .and => "and"
  | .or => "or"
  | .eq => "=="
  | .lt => "<"
  | .le => "<="
  | .add => "+"
  | .sub => "-"
  | .mul => "*"
  | .div => "/"
inductive Ex where
  | col (x : Str)
  | val (d : D)
  | bin (s : Sg) (a b : Ex)
  | pick (c a b : Ex)
  | not (a : Ex)
  | null (a : Ex)
  | len (a : Ex)
def exD : Ex → D
  | .col x => .tuple [.str "column", .str x]
  | .val d => .tuple [.str "value", d]
  | .bin s a b => .tuple [.str "binary", .str (sgS s), exD a, exD b]
  | .pick c a b => .tuple [.str "pick", exD c, exD a, exD b]
  | .not a => .tuple [.str "not", exD a]
  | .null a => .tuple [.str "null", exD a]
  | .len a => .tuple [.str "length", exD a]
def hgt : Ex → Nat
  | .col _ => 1
  | .val _ => 1
  | .bin _ a b => max (hgt a) (hgt b) + 1
  | .pick c a b => max (hgt c) (max (hgt a) (hgt b)) + 1
  | .not a => hgt a + 1
  | .null a => hgt a + 1
  | .len a => hgt a + 1
/-- drawn over the names ns -/
def wfE (ns : List Str) : Ex → Prop
  | .col x => x ∈ ns ∧ x.length ≤ 1000
  | .val d => gv d ∧ isV d = true
  | .bin _ a b => wfE ns a ∧ wfE ns b
  | .pick c a b => wfE ns c ∧ wfE ns a ∧ wfE ns b
  | .not a => wfE ns a
  | .null a => wfE ns a
  | .len a => wfE ns a
theorem hgt_pos (e : Ex) : 1 ≤ hgt e := by cases e <;> simp [hgt]
theorem cut_take2 {xs : List D} {j : Nat} : cutA xs none (some (2 + (j : Int))) = xs.take (2 + j) := by
  have e : (2 + (j : Int)) = ((2 + j : Nat) : Int) := by omega
  rw [e, cut_take]
theorem wo_four {n : Int} {Q : D × D → Prop} (q : ∀ (ps : List (Str × Str)) n', 2 ≤ ps.length → ps.length ≤ 4 → (∀ p ∈ ps, kd p.2) → ps.map (·.1) = (["a", "b", "c", "d"] : List Str).take ps.length → Q (.tuple (ps.map fdD), .list [.int n'])) : Wo (f__law_four (.list [.int n]) []) Q := by
  unfold f__law_four
  rw [wo_runIO]
  show Ws g__law_four [some (.own true (.list [.int n])), none, none] _
  unfold g__law_four
  simp! [sp_digit]
  obtain ⟨j, hj, hj3⟩ := modN n (show (0 : Int) < 3 by decide)
  rw [hj, cut_take2]
  generalize hN : ([.str "a", .str "b", .str "c", .str "d"] : List D).take (2 + j) = nl
  have hNl : nl.length = 2 + j := by rw [← hN, List.length_take]; simp only [List.length_cons, List.length_nil]; omega
  refine ⟨⟨by omega, rfl⟩, ?_⟩
  refine lc_inv (fun p a ρ => ∃ n' qs, ρ = [some (.own true (.list [.int n'])), some (.val (.list [.str "flag", .str "whole", .str "text"])), none] ∧ p = qs.map (fun q : Str × Str => PyData.str q.1) ∧ a = qs.map fdD ∧ ∀ q ∈ qs, kd q.2) nl [] [] _ ⟨_, [], rfl, rfl, rfl, by simp⟩ ?_ ?_
  · rintro p d r a ρ e ⟨n', qs, rfl, rfl, rfl, hqs⟩
    obtain ⟨x, rfl⟩ : ∃ x, d = .str x := by
      have h1 : d ∈ nl := by rw [show nl = _ ++ d :: r from e]; simp
      rw [← hN] at h1
      have h2 := List.mem_of_mem_take h1
      simp only [List.mem_cons, List.not_mem_nil, or_false] at h2
      rcases h2 with rfl | rfl | rfl | rfl <;> exact ⟨_, rfl⟩
    simp! [sp_digit]
    refine wo_ix (by omega) (by simp only [List.length_cons, List.length_nil]; omega) fun y hy => ?_
    obtain ⟨k, rfl, hkd⟩ := kinds_ok hy
    refine ⟨_, qs ++ [(x, k)], rfl, by simp, by simp [fdD], fun q hq => ?_⟩
    rcases List.mem_append.mp hq with h | h
    · exact hqs q h
    · rw [List.mem_singleton.mp h]
      exact hkd
  · rintro fs ρ' ⟨n', ps, rfl, hpn, hfs, hkd⟩
    rw [List.nil_append] at hpn hfs
    subst hfs
    have hpl : ps.length = 2 + j := by rw [← hNl, hpn, List.length_map]
    simp! [backE]
    refine q ps n' (by omega) (by omega) hkd ?_
    rw [hpl]
    have e2 : (ps.map (·.1)).map PyData.str = ((["a", "b", "c", "d"] : List Str).take (2 + j)).map PyData.str := by
      rw [List.map_map, List.map_take]
      exact hpn.symm.trans hN.symm
    exact (List.map_inj_right (fun x y h => by injection h)).mp e2
def nmOf (ps : List (Str × Str)) (k : Str) : List Str := (ps.filter fun p => decide (k = "any") || decide (p.2 = k)).map (·.1)
theorem sp_names {ps : List (Str × Str)} {k : Str} (hl : ps.length ≤ 1000) : f__law_names [.tuple (ps.map fdD), .str k] = some (.list ((nmOf ps k).map PyData.str)) := by
  rw [← wo_eq]
  unfold f__law_names
  rw [wo_runV]
  show Ws g__law_names [some (.val (.tuple (ps.map fdD))), some (.val (.str k)), none] _
  unfold g__law_names
  simp! [List.length_map]
  refine ⟨⟨by omega, rfl⟩, ?_⟩
  refine lc_filterA fdD (fun p => .str p.1) (fun p => decide (k = "any") || decide (p.2 = k)) _ (fun p hp => ?_) ?_
  · unfold fdD
    simp! []
    by_cases h : k = "any"
    · simp! [h]
      refine ⟨by simp, fun _ => ?_, fun _ => ?_⟩ <;> first | rfl | trivial
    · by_cases h2 : p.2 = k
      · simp! [h, h2]
        refine ⟨by simp, fun _ => ?_, fun _ => ?_⟩ <;> first | rfl | trivial
      · simp! [h, h2]
        refine ⟨by simp, fun _ => ?_, fun _ => ?_⟩ <;> first | rfl | trivial
  · unfold nmOf
    rw [List.map_map]
    rfl
theorem nm_mem {ps : List (Str × Str)} {k x : Str} (h : x ∈ nmOf ps k) : x ∈ ps.map (·.1) := by
  unfold nmOf at h
  obtain ⟨p, hp, rfl⟩ := List.mem_map.mp h
  exact List.mem_map.mpr ⟨p, (List.mem_filter.mp hp).1, rfl⟩
theorem wo_leaf {n : Int} {k : Str} {ps : List (Str × Str)} {Q : D × D → Prop} (hl : ps.length ≤ 1000) (hn : ∀ p ∈ ps, p.1.length ≤ 1000) (q : ∀ e n', hgt e = 1 → wfE (ps.map (·.1)) e → Q (exD e, .list [.int n'])) : Wo (f__law_leaf (.list [.int n]) [.tuple (ps.map fdD), .str k]) Q := by
  unfold f__law_leaf
  rw [wo_runIO]
  show Ws g__law_leaf [some (.own true (.list [.int n])), some (.val (.tuple (ps.map fdD))), some (.val (.str k)), none, none] _
  unfold g__law_leaf
  have hlen : (nmOf ps k).length ≤ ps.length := by
    unfold nmOf
    rw [List.length_map]
    exact List.length_filter_le _ _
  have value : ∀ (n : Int) (k : Str) (R : D × D → Prop), (∀ d n', gv d → isV d = true → R (d, .list [.int n'])) → Wo (f__law_value (.list [.int n]) [.str k]) R := fun n k R h => wo_valueT fun d n' h1 _ h3 => h d n' h1 h3
  simp! [sp_names hl, sp_digit, List.length_map]
  have fin : ∀ (n : Int) (k2 : Str), Wo (f__law_value (.list [.int n]) [.str k2]) fun p => Q (.tuple [.str "value", p.1], p.2) := fun n k2 => value _ _ _ fun d n' h1 h2 => q (.val d) n' rfl ⟨h1, h2⟩
  have rest : ∀ n : Int, (if k = Str.ofString "any" then Wo (ixA [.str "flag", .str "whole", .str "text"] (n % 3)) fun d => Wo (f__law_value (.list [.int (n / 3)]) [d]) fun r => Q (.tuple [.str "value", r.1], r.2) else Wo (f__law_value (.list [.int n]) [.str k]) fun r => Q (.tuple [.str "value", r.1], r.2)) := by
    intro n
    split
    · refine wo_ix (by omega) (by simp only [List.length_cons, List.length_nil]; omega) fun y hy => ?_
      obtain ⟨k2, rfl, _⟩ := kinds_ok hy
      exact fin _ _
    · exact fin _ _
  split
  · split
    · rename_i h1 h2
      rw [sp_digit _ _ ⟨by omega, by omega⟩, wo_some]
      show Wo (ixA _ _) _
      refine wo_ix (Int.emod_nonneg _ (by omega)) (by rw [List.length_map]; exact Int.emod_lt_of_pos _ h1) fun y hy => ?_
      obtain ⟨x, hx, rfl⟩ := List.mem_map.mp hy
      have hx' := nm_mem hx
      obtain ⟨p, hp, e⟩ := List.mem_map.mp hx'
      exact q (.col x) _ rfl ⟨hx', by rw [← e]; exact hn p hp⟩
    · exact rest _
  · exact rest _
def knds : List Str := ["flag", "whole", "text", "any"]
theorem kn_flag : (("flag" : Str)) ∈ knds := by simp [knds]
theorem kn_whole : (("whole" : Str)) ∈ knds := by simp [knds]
theorem kn_text : (("text" : Str)) ∈ knds := by simp [knds]
theorem kn_any : (("any" : Str)) ∈ knds := by simp [knds]
theorem kn_of {d : D} (h : d ∈ ([.str "flag", .str "whole", .str "text"] : List D)) : ∃ k, d = .str k ∧ k ∈ knds := by
  obtain ⟨k, rfl, h2⟩ := kinds_ok h
  refine ⟨k, rfl, ?_⟩
  rcases h2 with rfl | rfl | rfl
  · exact kn_flag
  · exact kn_whole
  · exact kn_text
theorem wo_flag {ps : List (Str × Str)} {m L : Nat} (E : ∀ (n : Int) (k : Str) (Q : D × D → Prop), k ∈ knds → (∀ e n', hgt e ≤ L + 1 → wfE (ps.map (·.1)) e → Q (exD e, .list [.int n'])) → Wo ((fuel__law_flag m).2 (.list [.int n]) [.int L, .tuple (ps.map fdD), .str k]) Q)
    {n : Int} {Q : D × D → Prop} (q : ∀ e n', hgt e ≤ L + 2 → wfE (ps.map (·.1)) e → Q (exD e, .list [.int n'])) : Wo ((fuel__law_flag (m + 1)).1 (.list [.int n]) [.int L, .tuple (ps.map fdD)]) Q := by
  show Wo (runIO 7 (g__law_flag (fuel__law_flag m).1 (fuel__law_flag m).2) (.list [.int n]) [.int L, .tuple (ps.map fdD)]) Q
  rw [wo_runIO]
  show Ws (g__law_flag (fuel__law_flag m).1 (fuel__law_flag m).2) [some (.own true (.list [.int n])), some (.val (.int L)), some (.val (.tuple (ps.map fdD))), none, none, none, none] _
  unfold g__law_flag
  simp! [sp_digit, str_iff, String.reduceEq]
  refine wo_ix (by omega) (by simp only [List.length_cons, List.length_nil]; omega) fun y hy => ?_
  obtain ⟨k, rfl, hk⟩ := kn_of hy
  have sg2 : ∀ y ∈ ([.str "and", .str "or"] : List D), ∃ s : Sg, y = .str (sgS s) := fun y hy => by
    simp only [List.mem_cons, List.not_mem_nil, or_false] at hy
    rcases hy with rfl | rfl
    · exact ⟨.and, rfl⟩
    · exact ⟨.or, rfl⟩
  have sg3 : ∀ y ∈ ([.str "==", .str "<", .str "<="] : List D), ∃ s : Sg, y = .str (sgS s) := fun y hy => by
    simp only [List.mem_cons, List.not_mem_nil, or_false] at hy
    rcases hy with rfl | rfl | rfl
    · exact ⟨.eq, rfl⟩
    · exact ⟨.lt, rfl⟩
    · exact ⟨.le, rfl⟩
  have bin : ∀ (n : Int) (c : Int) (k : Str), k ∈ knds → Wo ((fuel__law_flag m).2 (.list [.int n]) [.int L, .tuple (ps.map fdD), .str k]) fun r => Wo (f__law_digit r.2 [.int 2]) fun r1 => Wo (ixD (.list [.str "and", .str "or"]) r1.1) fun r2 =>
      if 4 ≤ c then Wo (f__law_digit r1.2 [.int 3]) fun r3 => Wo (ixD (.list [.str "==", .str "<", .str "<="]) r3.1) fun d => Wo ((fuel__law_flag m).2 r3.2 [.int L, .tuple (ps.map fdD), .str k]) fun r4 => Q (.tuple [.str "binary", d, r.1, r4.1], r4.2)
      else Wo ((fuel__law_flag m).2 r1.2 [.int L, .tuple (ps.map fdD), .str k]) fun r3 => Q (.tuple [.str "binary", r2, r.1, r3.1], r3.2) := fun n c k hk => by
    refine E _ _ _ hk fun a n1 a1 a2 => ?_
    show Wo (f__law_digit (.list [.int n1]) [.int 2]) _
    rw [sp_digit _ _ ⟨by decide, by decide⟩, wo_some]
    show Wo (ixA _ _) _
    refine wo_ix (by show 0 ≤ n1 % 2; omega) (by simp only [List.length_cons, List.length_nil]; omega) fun y hy => ?_
    split
    · show Wo (f__law_digit (.list [.int (n1 / 2)]) [.int 3]) _
      rw [sp_digit _ _ ⟨by decide, by decide⟩, wo_some]
      show Wo (ixA _ _) _
      refine wo_ix (by show 0 ≤ n1 / 2 % 3; omega) (by simp only [List.length_cons, List.length_nil]; omega) fun z hz => ?_
      obtain ⟨s, rfl⟩ := sg3 z hz
      refine E _ _ _ hk fun b n2 b1 b2 => ?_
      exact q (.bin s a b) n2 (by simp only [hgt]; omega) ⟨a2, b2⟩
    · obtain ⟨s, rfl⟩ := sg2 y hy
      refine E _ _ _ hk fun b n2 b1 b2 => ?_
      exact q (.bin s a b) n2 (by simp only [hgt]; omega) ⟨a2, b2⟩
  split
  · refine E _ _ _ kn_flag fun a n1 a1 a2 => ?_
    exact q (.not a) n1 (by simp only [hgt]; omega) a2
  split
  · refine E _ _ _ hk fun a n1 a1 a2 => ?_
    exact q (.null a) n1 (by simp only [hgt]; omega) a2
  split
  · exact bin _ _ _ kn_flag
  · exact bin _ _ _ hk
/-- expressions as they are drawn -/
theorem wo_expr {ps : List (Str × Str)} (hl : ps.length ≤ 1000) (hn : ∀ p ∈ ps, p.1.length ≤ 1000) : ∀ (L m : Nat) (n : Int) (k : Str) (Q : D × D → Prop), L ≤ 1000 → 2 * L + 1 ≤ m → k ∈ knds → (∀ e n', hgt e ≤ L + 1 → wfE (ps.map (·.1)) e → Q (exD e, .list [.int n'])) → Wo ((fuel__law_flag m).2 (.list [.int n]) [.int L, .tuple (ps.map fdD), .str k]) Q
  | L, 0, n, k, Q, _, hm, hk, q => absurd hm (by omega)
  | L, m + 1, n, k, Q, hL, hm, hk, q => by
    show Wo (runIO 7 (g__law_expression (fuel__law_flag m).1 (fuel__law_flag m).2) (.list [.int n]) [.int L, .tuple (ps.map fdD), .str k]) Q
    rw [wo_runIO]
    show Ws (g__law_expression (fuel__law_flag m).1 (fuel__law_flag m).2) [some (.own true (.list [.int n])), some (.val (.int L)), some (.val (.tuple (ps.map fdD))), some (.val (.str k)), none, none, none] _
    unfold g__law_expression
    have leaf : ∀ (n : Int) (k : Str), Wo (f__law_leaf (.list [.int n]) [.tuple (ps.map fdD), .str k]) fun r => Q (r.1, r.2) := fun n k => wo_leaf hl hn fun e n' h1 h2 => q e n' (by omega) h2
    by_cases h0 : L = 0
    · have hz : ((L : Int) = 0) := by omega
      simp! [sp_digit, str_iff, String.reduceEq, hz]
      split <;> exact leaf _ _
    · obtain ⟨L', rfl⟩ : ∃ L', L = L' + 1 := ⟨L - 1, by omega⟩
      have hz : ¬ (((L' + 1 : Nat) : Int) = 0) := by omega
      have eL : (((L' + 1 : Nat) : Int) - 1) = (L' : Int) := by omega
      have E : ∀ (n : Int) (k : Str) (Q : D × D → Prop), k ∈ knds → (∀ e n', hgt e ≤ L' + 1 → wfE (ps.map (·.1)) e → Q (exD e, .list [.int n'])) → Wo ((fuel__law_flag m).2 (.list [.int n]) [.int L', .tuple (ps.map fdD), .str k]) Q := fun n k Q hk q => wo_expr hl hn L' m n k Q (by omega) (by omega) hk q
      have F : ∀ (n : Int), Wo ((fuel__law_flag m).1 (.list [.int n]) [.int L', .tuple (ps.map fdD)]) fun r => Q (r.1, r.2) := fun n => by
        obtain ⟨m', rfl⟩ : ∃ m', m = m' + 1 := ⟨m - 1, by omega⟩
        exact wo_flag (fun n k Q hk q => wo_expr hl hn L' m' n k Q (by omega) (by omega) hk q) fun e n' h1 h2 => q e n' (by omega) h2
      have pick : ∀ (n : Int) (k : Str), k ∈ knds → Wo ((fuel__law_flag m).2 (.list [.int n]) [.int L', .tuple (ps.map fdD), .str "flag"]) fun r => Wo ((fuel__law_flag m).2 r.2 [.int L', .tuple (ps.map fdD), .str k]) fun r1 => Wo ((fuel__law_flag m).2 r1.2 [.int L', .tuple (ps.map fdD), .str k]) fun r2 => Q (.tuple [.str "pick", r.1, r1.1, r2.1], r2.2) := fun n k hk => by
        refine E _ _ _ kn_flag fun c n1 c1 c2 => ?_
        refine E _ _ _ hk fun a n2 a1 a2 => ?_
        refine E _ _ _ hk fun b n3 b1 b2 => ?_
        exact q (.pick c a b) n3 (by simp only [hgt]; omega) ⟨c2, a2, b2⟩
      have len : ∀ (n : Int), Wo ((fuel__law_flag m).2 (.list [.int n]) [.int L', .tuple (ps.map fdD), .str "text"]) fun r => Q (.tuple [.str "length", r.1], r.2) := fun n => by
        refine E _ _ _ kn_text fun a n2 a1 a2 => ?_
        exact q (.len a) n2 (by simp only [hgt]; omega) a2
      simp! [sp_digit, str_iff, String.reduceEq, hz, eL]
      repeat' split
      all_goals first | exact leaf _ _ | exact F _ | exact pick _ _ kn_any | exact pick _ _ hk | exact len _ | skip
      refine E _ _ _ kn_whole fun a n1 a1 a2 => ?_
      show Wo (f__law_digit (.list [.int n1]) [.int 4]) _
      rw [sp_digit _ _ ⟨by decide, by decide⟩, wo_some]
      show Wo (ixA _ _) _
      refine wo_ix (by show 0 ≤ n1 % 4; omega) (by simp only [List.length_cons, List.length_nil]; omega) fun y hy => ?_
      obtain ⟨s, rfl⟩ : ∃ s : Sg, y = .str (sgS s) := by
        simp only [List.mem_cons, List.not_mem_nil, or_false] at hy
        rcases hy with rfl | rfl | rfl | rfl
        · exact ⟨.add, rfl⟩
        · exact ⟨.sub, rfl⟩
        · exact ⟨.mul, rfl⟩
        · exact ⟨.div, rfl⟩
      refine E _ _ _ kn_whole fun b n2 b1 b2 => ?_
      exact q (.bin s a b) n2 (by simp only [hgt]; omega) ⟨a2, b2⟩
termination_by _ m => m
def lookK : List (Str × Str) → Str → Option Str
  | [], _ => none
  | p :: ps, x => if p.1 = x then some p.2 else lookK ps x
def tD : Option Str → D
  | none => .none
  | some k => .str k
def tyO : D → Option Str
  | .none => none
  | .bool _ => some "flag"
  | .int _ => some "whole"
  | _ => some "text"
def agr (a b : Option Str) : Bool := a.isNone || (b.isNone || decide (a = b))
def differS : Str := "types differ"
def noC (x : Str) : Str := "there is no column " ++ x
abbrev Ty := Option Str ⊕ Str
def bindT (a : Ty) (k : Option Str → Ty) : Ty := match a with
  | .inl t => k t
  | .inr m => .inr m
def tyS (s : Sg) (a b : Option Str) : Ty := match s with
  | .and => if (agr a (some "flag") && agr b (some "flag")) = true then .inl (some "flag") else .inr differS
  | .or => if (agr a (some "flag") && agr b (some "flag")) = true then .inl (some "flag") else .inr differS
  | .eq => if agr a b = true then .inl (some "flag") else .inr differS
  | .lt => if agr a b = true then .inl (some "flag") else .inr differS
  | .le => if agr a b = true then .inl (some "flag") else .inr differS
  | .add => if (agr a (some "whole") && agr b (some "whole")) = true then .inl (some "whole") else .inr differS
  | .sub => if (agr a (some "whole") && agr b (some "whole")) = true then .inl (some "whole") else .inr differS
  | .mul => if (agr a (some "whole") && agr b (some "whole")) = true then .inl (some "whole") else .inr differS
  | .div => if (agr a (some "whole") && agr b (some "whole")) = true then .inl (some "whole") else .inr differS
def ty (ps : List (Str × Str)) : Ex → Ty
  | .col x => match lookK ps x with
    | some k => .inl (some k)
    | none => .inr (noC x)
  | .val d => .inl (tyO d)
  | .bin s a b => bindT (ty ps a) fun ta => bindT (ty ps b) fun tb => tyS s ta tb
  | .pick c a b => bindT (ty ps c) fun tc => bindT (ty ps a) fun ta => bindT (ty ps b) fun tb => if agr tc (some "flag") = true ∧ agr ta tb = true then .inl (if ta = none then tb else ta) else .inr differS
  | .not a => bindT (ty ps a) fun ta => if agr ta (some "flag") = true then .inl (some "flag") else .inr differS
  | .null a => bindT (ty ps a) fun _ => .inl (some "flag")
  | .len a => bindT (ty ps a) fun ta => if agr ta (some "text") = true then .inl (some "whole") else .inr differS
def tyX : Ty → D ⊕ Xc
  | .inl t => .inl (tD t)
  | .inr m => .inr ⟨"InvalidOperator", m⟩
theorem sp_ag {a b : Option Str} : f_agree [tD a, tD b] = some (.bool (agr a b)) := by
  rw [← wo_eq]
  unfold f_agree
  rw [wo_runV]
  show Ws g_agree [some (.val (tD a)), some (.val (tD b))] _
  unfold g_agree
  cases a with
  | none => simp! [tD, agr, Option.isNone]
            all_goals first | rfl | trivial | simp
  | some a =>
    cases b with
    | none => simp! [tD, agr, Option.isNone]
              all_goals first | rfl | trivial | simp
    | some b =>
      simp! [tD, agr, Option.isNone]
      all_goals first | rfl | trivial | simp
def wantX (b : Bool) : D ⊕ Xc := if b = true then .inl .none else .inr ⟨"InvalidOperator", differS⟩
theorem sp_want {ts : List (Option Str)} {w : Option Str} : f_want [.list (ts.map tD), tD w] = some (wantX (ts.all fun t => agr t w)) := by
  rw [← wo_eq]
  unfold f_want
  rw [wo_runX]
  show Wx g_want [some (.val (.list (ts.map tD))), some (.val (tD w)), none] _ _
  unfold g_want
  simp! []
  refine wx_forA tD (fun p ρ => ∃ (o2 : Option Cell), canSet (some o2) = some () ∧ (p.all fun t => agr t w) = true ∧ ρ = [some (.val (.list (ts.map tD))), some (.val (tD w)), o2]) ⟨none, rfl, rfl, rfl⟩ ?_ ?_
  · rintro p t q ρ e ⟨o2, h2, hp, rfl⟩
    cases h : agr t w with
    | true =>
      simp! [h2, sp_ag, h]
      exact ⟨_, rfl, by rw [List.all_append, hp]; simp [h], rfl⟩
    | false =>
      have ea : (ts.all fun t => agr t w) = false := by rw [e, List.all_append, List.all_cons, h]; simp
      simp! [h2, sp_ag, h]
      rw [ea]
      rfl
  · rintro ρ' ⟨o2, h2, hp, rfl⟩
    simp! []
    rw [hp]
    rfl
theorem want1 {a w : Option Str} : f_want [.list [tD a], tD w] = some (wantX (agr a w)) := by
  have := sp_want (ts := [a]) (w := w)
  simpa using this
theorem want2 {a b w : Option Str} : f_want [.list [tD a, tD b], tD w] = some (wantX (agr a w && agr b w)) := by
  have := sp_want (ts := [a, b]) (w := w)
  simpa using this
theorem in4 (s : Sg) : inT (.str (sgS s)) (.tuple [.str "+", .str "-", .str "*", .str "/"]) = some (match s with | .add => true | .sub => true | .mul => true | .div => true | _ => false) := by cases s <;> decide +kernel
theorem in2 (s : Sg) : inT (.str (sgS s)) (.tuple [.str "and", .str "or"]) = some (match s with | .and => true | .or => true | _ => false) := by cases s <;> decide +kernel
theorem sp_tb {s : Sg} {a b : Option Str} : f_type_of_binary [.str (sgS s), .list [tD a, tD b]] = some (tyX (tyS s a b)) := by
  rw [← wo_eq]
  unfold f_type_of_binary
  rw [wo_runX]
  show Wx g_type_of_binary [some (.val (.str (sgS s))), some (.val (.list [tD a, tD b]))] _ _
  unfold g_type_of_binary
  have wf := want2 (a := a) (b := b) (w := some "flag")
  have ww := want2 (a := a) (b := b) (w := some "whole")
  have wt := want1 (a := a) (w := b)
  have ef : tD (some "flag") = .str "flag" := rfl
  have ew : tD (some "whole") = .str "whole" := rfl
  rw [ef] at wf
  rw [ew] at ww
  have x1 : wantX true = .inl .none := rfl
  have x2 : wantX false = .inr ⟨"InvalidOperator", differS⟩ := rfl
  have c1 : cutA [tD a, tD b] none (some 1) = [tD a] := rfl
  have c2 : ixA [tD a, tD b] 1 = some (tD b) := rfl
  cases s with
  | and => cases h : (agr a (some "flag") && agr b (some "flag")) <;> rw [h] at wf <;> simp! [in4, in2, wf, x1, x2, tyS, h, tyX, ef]
  | or => cases h : (agr a (some "flag") && agr b (some "flag")) <;> rw [h] at wf <;> simp! [in4, in2, wf, x1, x2, tyS, h, tyX, ef]
  | eq => cases h : agr a b <;> rw [h] at wt <;> simp! [in4, in2, wt, c1, c2, x1, x2, tyS, h, tyX, ef]
  | lt => cases h : agr a b <;> rw [h] at wt <;> simp! [in4, in2, wt, c1, c2, x1, x2, tyS, h, tyX, ef]
  | le => cases h : agr a b <;> rw [h] at wt <;> simp! [in4, in2, wt, c1, c2, x1, x2, tyS, h, tyX, ef]
  | add => cases h : (agr a (some "whole") && agr b (some "whole")) <;> rw [h] at ww <;> simp! [in4, in2, ww, x1, x2, tyS, h, tyX, ew]
  | sub => cases h : (agr a (some "whole") && agr b (some "whole")) <;> rw [h] at ww <;> simp! [in4, in2, ww, x1, x2, tyS, h, tyX, ew]
  | mul => cases h : (agr a (some "whole") && agr b (some "whole")) <;> rw [h] at ww <;> simp! [in4, in2, ww, x1, x2, tyS, h, tyX, ew]
  | div => cases h : (agr a (some "whole") && agr b (some "whole")) <;> rw [h] at ww <;> simp! [in4, in2, ww, x1, x2, tyS, h, tyX, ew]
theorem cut1 {x : D} {xs : List D} : cutA (x :: xs) (some 1) none = xs := by
  have := cut_drop (x :: xs) 1
  simpa using this
def prtE : Ex → List Ex
  | .col _ => []
  | .val _ => []
  | .bin _ a b => [a, b]
  | .pick c a b => [c, a, b]
  | .not a => [a]
  | .null a => [a]
  | .len a => [a]
theorem sp_parts (e : Ex) : f_parts_of [exD e] = some (.list ((prtE e).map exD)) := by
  rw [← wo_eq]
  unfold f_parts_of
  rw [wo_runV]
  show Ws g_parts_of [some (.val (exD e))] _
  unfold g_parts_of
  cases e <;> simp! [exD, str_iff, String.reduceEq, cut1, prtE, List.map_nil, List.map_cons]
theorem look_loop {ps : List (Str × Str)} {x : Str} : ∀ (i : Nat), (match lookK ps x with | some k => ∃ j : Nat, colAt i ps x = .int ((i + j : Nat) : Int) ∧ ∃ n, ps[j]? = some (n, k) | none => colAt i ps x = .none) := by
  induction ps with
  | nil => exact fun i => rfl
  | cons p ps ih =>
    intro i
    unfold lookK colAt
    by_cases h : p.1 = x
    · rw [if_pos h, if_pos h]
      exact ⟨0, rfl, p.1, rfl⟩
    · rw [if_neg h, if_neg h]
      have := ih (i + 1)
      cases hk : lookK ps x with
      | none => rw [hk] at this; exact this
      | some k =>
        rw [hk] at this
        obtain ⟨j, h1, n, h2⟩ := this
        exact ⟨j + 1, by rw [h1]; congr 2; omega, n, h2⟩
theorem add_noC {x : Str} (h : x.length ≤ 1000) : addD (.str "there is no column ") (.str x) = some (.str (noC x)) := by
  have e : ("there is no column " : Str).length = 19 := by decide +kernel
  rw [add_ss, e, if_pos (by omega)]
  rfl
theorem sp_tov {d : D} (h : gv d) : f_type_of_value [d] = some (tD (tyO d)) := by
  rw [← wo_eq]
  unfold f_type_of_value
  rw [wo_runV]
  show Ws g_type_of_value [some (.val d)] _
  unfold g_type_of_value
  rcases gv_cases h with rfl | ⟨b, rfl⟩ | ⟨i, rfl⟩ | ⟨s, rfl⟩ <;> simp! [tyO, tD]
theorem tyX_l {t : Option Str} : tyX (.inl t) = .inl (tD t) := rfl
theorem tyX_r {m : Str} : tyX (.inr m) = .inr ⟨"InvalidOperator", m⟩ := rfl
theorem sp_type_of {ps : List (Str × Str)} {ns : List Str} : ∀ (e : Ex) (n : Nat), hgt e ≤ n → wfE ns e → fuel_type_of n [exD e, .tuple (ps.map fdD)] = some (tyX (ty ps e)) := by
  have x1 : wantX true = .inl .none := rfl
  have x2 : wantX false = .inr ⟨"InvalidOperator", differS⟩ := rfl
  have ef : tD (some "flag") = .str "flag" := rfl
  have et : tD (some "text") = .str "text" := rfl
  have ew : tD (some "whole") = .str "whole" := rfl
  have start : ∀ (e : Ex) (n : Nat) (r0 : D ⊕ Xc), tyX (ty ps e) = r0 → Wx (g_type_of (fuel_type_of n)) [some (.val (exD e)), some (.val (.tuple (ps.map fdD))), none, none, none, none] (endQ fun r => r = r0) (fun x _ => .inr x = r0) → fuel_type_of (n + 1) [exD e, .tuple (ps.map fdD)] = some (tyX (ty ps e)) := fun e n r0 e0 h => by
    rw [← wo_eq, e0]
    show Wo (runX 6 (g_type_of (fuel_type_of n)) [exD e, .tuple (ps.map fdD)]) _
    rw [wo_runX]
    exact h
  intro e
  induction e with
  | col x =>
    intro n hn hw
    obtain ⟨n, rfl⟩ : ∃ m, n = m + 1 := ⟨n - 1, by have := hgt_pos (.col x); omega⟩
    refine start _ _ _ rfl ?_
    unfold g_type_of
    have hc := sp_column (ps := ps) (fd := .tuple (ps.map fdD)) (x := x) rfl
    have hl := look_loop (ps := ps) (x := x) 0
    cases hk : lookK ps x with
    | none =>
      rw [hk] at hl
      rw [hl] at hc
      simp! [exD, str_iff, String.reduceEq, hc, add_noC hw.2, ty, hk, tyX]
    | some k =>
      rw [hk] at hl
      obtain ⟨j, h1, nm, h2⟩ := hl
      rw [h1] at hc
      have hi : ixA (ps.map fdD) ((0 + j : Nat) : Int) = some (.tuple [.str nm, .str k]) := by
        rw [ixA_nat, List.getElem?_map, Nat.zero_add, h2]
        rfl
      simp! [exD, str_iff, String.reduceEq, hc, hi, ty, hk, tyX, tD]
  | val d =>
    intro n hn hw
    obtain ⟨n, rfl⟩ : ∃ m, n = m + 1 := ⟨n - 1, by have := hgt_pos (.val d); omega⟩
    refine start _ _ _ rfl ?_
    unfold g_type_of
    simp! [exD, str_iff, String.reduceEq, sp_tov hw.1, ty, tyX]
  | bin s a b iha ihb =>
    intro n hn hw
    simp only [hgt] at hn
    obtain ⟨n, rfl⟩ : ∃ m, n = m + 1 := ⟨n - 1, by omega⟩
    have ha := iha n (by omega) hw.1
    have hb := ihb n (by omega) hw.2
    have hp : f_parts_of [.tuple [.str "binary", .str (sgS s), exD a, exD b]] = some (.list [exD a, exD b]) := sp_parts (.bin s a b)
    cases hta : ty ps a with
    | inr m =>
      rw [hta, tyX_r] at ha
      refine start _ _ (.inr ⟨"InvalidOperator", m⟩) (by rw [ty, hta]; rfl) ?_
      unfold g_type_of
      simp! [exD, str_iff, String.reduceEq, hp, ha]
      all_goals rfl
    | inl ta =>
      rw [hta, tyX_l] at ha
      cases htb : ty ps b with
      | inr m =>
        rw [htb, tyX_r] at hb
        refine start _ _ (.inr ⟨"InvalidOperator", m⟩) (by rw [ty, hta, htb]; rfl) ?_
        unfold g_type_of
        simp! [exD, str_iff, String.reduceEq, hp, ha, hb]
        all_goals rfl
      | inl tb =>
        rw [htb, tyX_l] at hb
        have h2 := sp_tb (s := s) (a := ta) (b := tb)
        cases hs : tyS s ta tb with
        | inl t =>
          rw [hs, tyX_l] at h2
          refine start _ _ (.inl (tD t)) (by rw [ty, hta, htb]; show tyX (tyS s ta tb) = _; rw [hs]; rfl) ?_
          unfold g_type_of
          simp! [exD, str_iff, String.reduceEq, hp, ha, hb, h2]
          all_goals rfl
        | inr m =>
          rw [hs, tyX_r] at h2
          refine start _ _ (.inr ⟨"InvalidOperator", m⟩) (by rw [ty, hta, htb]; show tyX (tyS s ta tb) = _; rw [hs]; rfl) ?_
          unfold g_type_of
          simp! [exD, str_iff, String.reduceEq, hp, ha, hb, h2]
          all_goals rfl
  | pick c a b ihc iha ihb =>
    intro n hn hw
    simp only [hgt] at hn
    obtain ⟨n, rfl⟩ : ∃ m, n = m + 1 := ⟨n - 1, by omega⟩
    have hc := ihc n (by omega) hw.1
    have ha := iha n (by omega) hw.2.1
    have hb := ihb n (by omega) hw.2.2
    have hp : f_parts_of [.tuple [.str "pick", exD c, exD a, exD b]] = some (.list [exD c, exD a, exD b]) := sp_parts (.pick c a b)
    cases htc : ty ps c with
    | inr m =>
      rw [htc, tyX_r] at hc
      refine start _ _ (.inr ⟨"InvalidOperator", m⟩) (by rw [ty, htc]; rfl) ?_
      unfold g_type_of
      simp! [exD, str_iff, String.reduceEq, hp, hc]
      all_goals rfl
    | inl tc =>
      rw [htc, tyX_l] at hc
      cases hta : ty ps a with
      | inr m =>
        rw [hta, tyX_r] at ha
        refine start _ _ (.inr ⟨"InvalidOperator", m⟩) (by rw [ty, htc, hta]; rfl) ?_
        unfold g_type_of
        simp! [exD, str_iff, String.reduceEq, hp, hc, ha]
        all_goals rfl
      | inl ta =>
        rw [hta, tyX_l] at ha
        cases htb : ty ps b with
        | inr m =>
          rw [htb, tyX_r] at hb
          refine start _ _ (.inr ⟨"InvalidOperator", m⟩) (by rw [ty, htc, hta, htb]; rfl) ?_
          unfold g_type_of
          simp! [exD, str_iff, String.reduceEq, hp, hc, ha, hb]
          all_goals rfl
        | inl tb =>
          rw [htb, tyX_l] at hb
          have w1 := want1 (a := tc) (w := some "flag")
          have w2 := want1 (a := ta) (w := tb)
          rw [ef] at w1
          have e1 : cutA [tD tc, tD ta, tD tb] none (some 1) = [tD tc] := rfl
          have e2 : cutA [tD tc, tD ta, tD tb] (some 1) (some 2) = [tD ta] := rfl
          have e3 : ixA [tD tc, tD ta, tD tb] 2 = some (tD tb) := rfl
          have e4 : ixA [tD tc, tD ta, tD tb] 1 = some (tD ta) := rfl
          cases h1 : agr tc (some "flag") with
          | false =>
            rw [h1] at w1
            refine start _ _ (.inr ⟨"InvalidOperator", differS⟩) (by rw [ty, htc, hta, htb]; show tyX (if _ then _ else _) = _; rw [h1, if_neg (by simp)]; rfl) ?_
            unfold g_type_of
            simp! [exD, str_iff, String.reduceEq, hp, hc, ha, hb, w1, x2, e1]
            all_goals rfl
          | true =>
            rw [h1] at w1
            cases h2 : agr ta tb with
            | false =>
              rw [h2] at w2
              refine start _ _ (.inr ⟨"InvalidOperator", differS⟩) (by rw [ty, htc, hta, htb]; show tyX (if _ then _ else _) = _; rw [h1, h2, if_neg (by simp)]; rfl) ?_
              unfold g_type_of
              simp! [exD, str_iff, String.reduceEq, hp, hc, ha, hb, w1, w2, x1, x2, e1, e2, e3, e4]
              all_goals rfl
            | true =>
              rw [h2] at w2
              refine start _ _ (.inl (tD (if ta = none then tb else ta))) (by rw [ty, htc, hta, htb]; show tyX (if _ then _ else _) = _; rw [h1, h2, if_pos (by simp)]; rfl) ?_
              unfold g_type_of
              have en : tD none = .none := rfl
              cases ta with
              | none =>
                simp only [en] at e1 e2 e3 e4 w2 ha
                simp! [exD, str_iff, String.reduceEq, hp, hc, ha, hb, w1, w2, x1, x2, e1, e2, e3, e4, en, wm_ifE]
                all_goals rfl
              | some k =>
                have ek : tD (some k) = .str k := rfl
                simp only [ek] at e1 e2 e3 e4 w2 ha
                simp! [exD, str_iff, String.reduceEq, hp, hc, ha, hb, w1, w2, x1, x2, e1, e2, e3, e4, ek, wm_ifE]
                all_goals rfl
  | not a iha =>
    intro n hn hw
    simp only [hgt] at hn
    obtain ⟨n, rfl⟩ : ∃ m, n = m + 1 := ⟨n - 1, by omega⟩
    have ha := iha n (by omega) hw
    have hp : f_parts_of [.tuple [.str "not", exD a]] = some (.list [exD a]) := sp_parts (.not a)
    cases hta : ty ps a with
    | inr m =>
      rw [hta, tyX_r] at ha
      refine start _ _ (.inr ⟨"InvalidOperator", m⟩) (by rw [ty, hta]; rfl) ?_
      unfold g_type_of
      simp! [exD, str_iff, String.reduceEq, hp, ha]
      all_goals rfl
    | inl ta =>
      rw [hta, tyX_l] at ha
      have w1 := want1 (a := ta) (w := some "flag")
      rw [ef] at w1
      cases h1 : agr ta (some "flag") with
      | false =>
        rw [h1] at w1
        refine start _ _ (.inr ⟨"InvalidOperator", differS⟩) (by rw [ty, hta]; show tyX (if _ then _ else _) = _; rw [h1, if_neg (by simp)]; rfl) ?_
        unfold g_type_of
        simp! [exD, str_iff, String.reduceEq, hp, ha, w1, x2]
        all_goals rfl
      | true =>
        rw [h1] at w1
        refine start _ _ (.inl (.str "flag")) (by rw [ty, hta]; show tyX (if _ then _ else _) = _; rw [h1, if_pos rfl]; rfl) ?_
        unfold g_type_of
        simp! [exD, str_iff, String.reduceEq, hp, ha, w1, x1]
        all_goals rfl
  | null a iha =>
    intro n hn hw
    simp only [hgt] at hn
    obtain ⟨n, rfl⟩ : ∃ m, n = m + 1 := ⟨n - 1, by omega⟩
    have ha := iha n (by omega) hw
    have hp : f_parts_of [.tuple [.str "null", exD a]] = some (.list [exD a]) := sp_parts (.null a)
    cases hta : ty ps a with
    | inr m =>
      rw [hta, tyX_r] at ha
      refine start _ _ (.inr ⟨"InvalidOperator", m⟩) (by rw [ty, hta]; rfl) ?_
      unfold g_type_of
      simp! [exD, str_iff, String.reduceEq, hp, ha]
      all_goals rfl
    | inl ta =>
      rw [hta, tyX_l] at ha
      refine start _ _ (.inl (.str "flag")) (by rw [ty, hta]; rfl) ?_
      unfold g_type_of
      simp! [exD, str_iff, String.reduceEq, hp, ha]
      all_goals rfl
  | len a iha =>
    intro n hn hw
    simp only [hgt] at hn
    obtain ⟨n, rfl⟩ : ∃ m, n = m + 1 := ⟨n - 1, by omega⟩
    have ha := iha n (by omega) hw
    have hp : f_parts_of [.tuple [.str "length", exD a]] = some (.list [exD a]) := sp_parts (.len a)
    cases hta : ty ps a with
    | inr m =>
      rw [hta, tyX_r] at ha
      refine start _ _ (.inr ⟨"InvalidOperator", m⟩) (by rw [ty, hta]; rfl) ?_
      unfold g_type_of
      simp! [exD, str_iff, String.reduceEq, hp, ha]
      all_goals rfl
    | inl ta =>
      rw [hta, tyX_l] at ha
      have w1 := want1 (a := ta) (w := some "text")
      rw [et] at w1
      cases h1 : agr ta (some "text") with
      | false =>
        rw [h1] at w1
        refine start _ _ (.inr ⟨"InvalidOperator", differS⟩) (by rw [ty, hta]; show tyX (if _ then _ else _) = _; rw [h1, if_neg (by simp)]; rfl) ?_
        unfold g_type_of
        simp! [exD, str_iff, String.reduceEq, hp, ha, w1, x2]
        all_goals rfl
      | true =>
        rw [h1] at w1
        refine start _ _ (.inl (.str "whole")) (by rw [ty, hta]; show tyX (if _ then _ else _) = _; rw [h1, if_pos rfl]; rfl) ?_
        unfold g_type_of
        simp! [exD, str_iff, String.reduceEq, hp, ha, w1, x1]
        all_goals rfl
end Lw
set_option maxHeartbeats 4000000
namespace Lw
open PySem Dn Dm DnSo
local macro_rules | `(tactic| simp! [$xs,*]) => `(tactic| simp (maxSteps := 4000000) only [backE, wipeE, wo_some, wo_none, wm_c, wm_var, wm_frz, wm_bin, wm_un, wm_tst, wm_tru, wm_truB, wm_chain, wm_and, wm_or, wm_not, wm_andV, wm_orV, wm_notV, wm_ifE, wm_nil, wm_cons, wm_app, wm_noP, wm_part, wm_sl, wm_pk, wm_io, wm_ix, wm_inB, wm_true, wm_seq, wm_rng1, wm_rng2,
    then_nx, then_ret, then_rof, then_brk, then_cnt, ws_next, ws_brk, ws_cnt, ws_seq, ws_if, ws_ret, ws_rof, ws_drop, ws_set, ws_own, ws_asg, wo_TN, wo_TNil, wo_TCons, wo_TTup, ws_ap, ws_setIx, ws_for, for_nil, turn_nx, turn_cnt, turn_brk, turn_ret, turn_rof, wm_lc, end_ret, end_nx, end_rof, end_io, ownOf_own, valOf_val, frz_val, frz_own, frz_ownD, ixO_l, ixO_d, cOwn_own, peek_val, peek_own, peek_ownD, by_val, by_own, canSet_none, canSet_val, canSet_own, lstOf_list,
    List.getElem?_cons_zero, List.getElem?_cons_succ, List.set_cons_zero, List.set_cons_succ, List.length_cons, List.length_nil, wo_ite, wo_bind, ↓reduceIte, and_true, true_and, and_self, Bool.false_eq_true, Bool.not_true, Bool.not_false, decide_eq_true_eq, decide_true, decide_false, oneInt_int, twoInts_int,
    add_ii, add_ll, add_tt, add_ss, sub_ii, mul_ii, mulS_ii, mod_ii, fdiv_ii, neg_i, le_ii, gt_ii, ge_ii, eqT_ii, eqT_ss, eqT_bb, eqT_nn, ltT_ii, ltT_ss, wo_eqD, wo_neD, wo_ltD, wo_inD, wo_ninD, is_n, isnt_n, is_bb, isnt_bb, isN, bOf_b, iOf_i, tru_b, tru_n, tru_i, tru_l, tru_t, seq_l, seq_t, tup_l, tup_t, lst_l, lst_t, len_l, len_t, int_i, int_b, abs_i, max_ii, min_ii, ix_li, ix_ti, cut_l, cut_t, flat_i, flat_b, flat_s, ix0, ix1, ix2, mkTup, mkLst,
    add2_ll, ws_par3, three_c, ws_grp, empty_own, lOwnD_own, wm_lcW, wm_getD, wm_ind, ix3, ix4, ix_m2, ix_m1, ix_p2, ix_p1, wm_newD, ws_setK, wm_get, wm_ixK, wm_sortN, ws_ext, dOwn_own, lOwn_own, lsD_list, step_nx, step_cnt, step_brk, step_ret, step_rof, wm_reve, rev_l, rev_t, wm_opBL, repr_l, sort_l, sum_l, wm_enum, enum_l, enum_t, enumL_nil, wm_dic, wm_kvn, wm_kvc, seq_s, mulT_si, len_s, ord_c, str_i, ty_d, k_lb, k_li, k_ls, k_tb, k_ti, k_ts, k_db, k_di, k_ds, k_lt, k_tl,
    isi_1, tyOk_n, tyOk_b, tyOk_i, tyOk_s, tyOk_l, tyOk_t, ty_n, ty_b, ty_i, ty_s, ty_l, ty_t, k_nb, k_bb, k_ib, k_sb, k_ni, k_bi, k_ii, k_si, k_ns, k_bs, k_is, k_ss, k_ll, k_tt,
    Int.reduceNeg, Int.reducePow, Int.reduceLT, Int.reduceLE, Int.reduceAdd, Int.reduceSub, Int.reduceMul, Int.reduceToNat, Nat.reduceAdd, Nat.reduceLeDiff, Nat.reduceEqDiff, Int.reduceEq, reduceCtorEq, ws_grpL, empty_ownL, wo_TLst, wg_P, wg_end, wg_then, theng_nx, wg_yield, wm_callG, wo_runG, List.nil_append, wx_okD, wx_okL, wx_okB, wx_okS, wx_cons, wx_call, wx_app, wx_bin, wx_tst, wx_not, wx_ite, thenx_nx, thenx_ret, thenx_rof, thenx_brk, thenx_cnt, wx_seq, wx_if, wx_ret, wx_drop, wx_set, wx_apd, ownL_own, wx_raise, strOf_s, wx_for, ws_noX, wx_tryA, wx_try, retq_ret, either_l, either_r, endq_nx, endq_ret, hL_hd, gL_hd, wo_runX, wx_own, wl_nil, wl_cons, wx_lc, wm_keys, wm_callIOF, $xs,*])
def bnd (n : Int) : D := if n > 1000000000 ∨ n < -1000000000 then .none else .int n
def arS (f : Int → Int → Int) : D → D → D
  | .int i, .int j => bnd (f i j)
  | _, _ => .none
def dvS : D → D → D
  | .int i, .int j => if j = 0 then .none else bnd (i.fdiv j)
  | _, _ => .none
def and3 : D → D → D
  | .bool false, _ => .bool false
  | _, .bool false => .bool false
  | .bool true, .bool true => .bool true
  | _, _ => .none
def or3 : D → D → D
  | .bool true, _ => .bool true
  | _, .bool true => .bool true
  | .bool false, .bool false => .bool false
  | _, _ => .none
def cmpV (f : Bool) (u v : D) : D := if isN u = true ∨ isN v = true then .none else .bool f
def evS : Sg → D → D → D
  | .and, u, v => and3 u v
  | .or, u, v => or3 u v
  | .eq, u, v => cmpV (!ltV u v && !ltV v u) u v
  | .lt, u, v => cmpV (ltV u v) u v
  | .le, u, v => cmpV (!ltV v u) u v
  | .add, u, v => arS (· + ·) u v
  | .sub, u, v => arS (· - ·) u v
  | .mul, u, v => arS (· * ·) u v
  | .div, u, v => dvS u v
def ixN : List (Str × Str) → Str → Nat
  | [], _ => 0
  | p :: ps, x => if p.1 = x then 0 else ixN ps x + 1
def nt : D → D
  | .bool b => .bool (!b)
  | _ => .none
def ln : D → D
  | .str s => .int s.length
  | _ => .none
def isT : D → Bool
  | .bool true => true
  | _ => false
def ev (ps : List (Str × Str)) (r : List D) : Ex → D
  | .col x => (r[ixN ps x]?).getD .none
  | .val d => d
  | .bin s a b => evS s (ev ps r a) (ev ps r b)
  | .pick c a b => if isT (ev ps r c) = true then ev ps r a else ev ps r b
  | .not a => nt (ev ps r a)
  | .null a => .bool (isN (ev ps r a))
  | .len a => ln (ev ps r a)
/-- a value of a type -/
inductive Tval : Option Str → D → Prop
  | non (t : Option Str) : Tval t .none
  | flag (b : Bool) : Tval (some "flag") (.bool b)
  | whole (i : Int) (h : -1000000000 ≤ i ∧ i ≤ 1000000000) : Tval (some "whole") (.int i)
  | text (s : Str) (h : gv (.str s)) (l : s.length ≤ 1000) : Tval (some "text") (.str s)
theorem tok_gv {t : Option Str} {v : D} (h : Tval t v) : gv v := by
  cases h with
  | non => exact gv_none
  | flag b => exact gv_bool b
  | whole i _ => exact gv_int i
  | text s h _ => exact h
theorem tok_flag {t : Option Str} {v : D} (a : agr t (some "flag") = true) (h : Tval t v) : v = .none ∨ ∃ b, v = .bool b := by
  cases h with
  | non => exact .inl rfl
  | flag b => exact .inr ⟨b, rfl⟩
  | whole i _ => exact absurd a (by decide)
  | text s _ _ => exact absurd a (by decide)
theorem tok_whole {t : Option Str} {v : D} (a : agr t (some "whole") = true) (h : Tval t v) : v = .none ∨ ∃ i, v = .int i ∧ (-1000000000 ≤ i ∧ i ≤ 1000000000) := by
  cases h with
  | non => exact .inl rfl
  | flag b => exact absurd a (by decide)
  | whole i h => exact .inr ⟨i, rfl, h⟩
  | text s _ _ => exact absurd a (by decide)
theorem tok_text {t : Option Str} {v : D} (a : agr t (some "text") = true) (h : Tval t v) : v = .none ∨ ∃ s : Str, v = .str s ∧ s.length ≤ 1000 := by
  cases h with
  | non => exact .inl rfl
  | flag b => exact absurd a (by decide)
  | whole i _ => exact absurd a (by decide)
  | text s _ l => exact .inr ⟨s, rfl, l⟩
theorem tok_bnd (n : Int) : Tval (some "whole") (bnd n) := by
  unfold bnd
  split
  · exact .non _
  · exact .whole n (by omega)
theorem tok_ar (f : Int → Int → Int) (u v : D) : Tval (some "whole") (arS f u v) := by
  unfold arS
  split
  · exact tok_bnd _
  · exact .non _
theorem tok_dv (u v : D) : Tval (some "whole") (dvS u v) := by
  unfold dvS
  split
  · split
    · exact .non _
    · exact tok_bnd _
  · exact .non _
theorem tok_and (u v : D) : Tval (some "flag") (and3 u v) := by
  unfold and3
  split <;> first | exact .flag _ | exact .non _
theorem tok_or (u v : D) : Tval (some "flag") (or3 u v) := by
  unfold or3
  split <;> first | exact .flag _ | exact .non _
theorem tok_cmp (f : Bool) (u v : D) : Tval (some "flag") (cmpV f u v) := by
  unfold cmpV
  split
  · exact .non _
  · exact .flag _
theorem tok_evS {s : Sg} {ta tb t : Option Str} (h : tyS s ta tb = .inl t) (u v : D) : Tval t (evS s u v) := by
  cases s <;> (simp only [tyS] at h; split at h <;> cases h) <;> first | exact tok_and _ _ | exact tok_or _ _ | exact tok_cmp _ _ _ | exact tok_ar _ _ _ | exact tok_dv _ _
theorem bind_l {r : Ty} {f : Option Str → Ty} {t : Option Str} (h : bindT r f = .inl t) : ∃ a, r = .inl a ∧ f a = .inl t := by
  cases r with
  | inl a => exact ⟨a, rfl, h⟩
  | inr m => cases h
theorem if_l {p : Prop} [Decidable p] {t s : Option Str} {m : Str} (h : (if p then (.inl t : Ty) else .inr m) = .inl s) : p ∧ t = s := by
  split at h
  · rename_i hp
    cases h
    exact ⟨hp, rfl⟩
  · cases h
/-- a row of the fields -/
structure Row (ps : List (Str × Str)) (r : List D) : Prop where
  len : r.length = ps.length
  tok : ∀ (j : Nat) (p : Str × Str) (v : D), ps[j]? = some p → r[j]? = some v → Tval (some p.2) v
theorem look_ix {x : Str} : ∀ {ps : List (Str × Str)} {k : Str}, lookK ps x = some k → ∃ n, ps[ixN ps x]? = some (n, k)
  | [], k, h => by cases h
  | p :: ps, k, h => by
    unfold lookK at h
    unfold ixN
    split at h
    · rename_i q
      cases h
      rw [if_pos q]
      exact ⟨p.1, rfl⟩
    · rename_i q
      rw [if_neg q]
      exact look_ix h
theorem col_ix {x : Str} : ∀ {ps : List (Str × Str)} {k : Str} (i : Nat), lookK ps x = some k → colAt i ps x = .int ((i + ixN ps x : Nat) : Int)
  | [], k, i, h => by cases h
  | p :: ps, k, i, h => by
    unfold lookK at h
    unfold ixN colAt
    split at h
    · rename_i q
      rw [if_pos q, if_pos q]
      rfl
    · rename_i q
      rw [if_neg q, if_neg q, col_ix (i + 1) h]
      congr 2
      omega
theorem tyO_tok {d : D} (h : gv d) (hv : isV d = true) : Tval (tyO d) d := by
  rcases gv_cases h with rfl | ⟨b, rfl⟩ | ⟨i, rfl⟩ | ⟨s, rfl⟩
  · exact .non _
  · exact .flag b
  · exact .whole i (of_decide_eq_true hv)
  · exact .text s h (by
      have hv : textB s = true := hv
      unfold textB at hv
      rw [Bool.and_eq_true] at hv
      have := of_decide_eq_true hv.1
      omega)
theorem ev_tok {ps : List (Str × Str)} {ns : List Str} {r : List D} (hr : Row ps r) : ∀ (e : Ex) (t : Option Str), wfE ns e → ty ps e = .inl t → Tval t (ev ps r e)
  | .col x, t, w, h => by
    unfold ty at h
    cases hk : lookK ps x with
    | none => rw [hk] at h; cases h
    | some k =>
      rw [hk] at h
      cases h
      obtain ⟨n, e⟩ := look_ix hk
      have hi : ixN ps x < r.length := by rw [hr.len]; exact (List.getElem?_eq_some_iff.mp e).1
      unfold ev
      rw [List.getElem?_eq_getElem hi]
      exact hr.tok _ _ _ e (List.getElem?_eq_getElem hi)
  | .val d, t, w, h => by
    cases h
    exact tyO_tok w.1 w.2
  | .bin s a b, t, w, h => by
    obtain ⟨ta, h1, h⟩ := bind_l h
    obtain ⟨tb, h2, h⟩ := bind_l h
    exact tok_evS h _ _
  | .pick c a b, t, w, h => by
    obtain ⟨tc, h0, h⟩ := bind_l h
    obtain ⟨ta, h1, h⟩ := bind_l h
    obtain ⟨tb, h2, h⟩ := bind_l h
    obtain ⟨⟨_, ag⟩, rfl⟩ := if_l h
    have ka := ev_tok hr a ta w.2.1 h1
    have kb := ev_tok hr b tb w.2.2 h2
    have up : ∀ v, Tval none v → ∀ t, Tval t v := fun v k t => by cases k; exact .non t
    have same : ∀ k l : Str, agr (some k) (some l) = true → k = l := fun k l h => by simpa [agr] using h
    unfold ev
    cases ta with
    | none =>
      rw [if_pos rfl]
      split
      · exact up _ ka _
      · exact kb
    | some k =>
      rw [if_neg (by simp)]
      split
      · exact ka
      · cases tb with
        | none => exact up _ kb _
        | some l =>
          rw [same k l ag]
          exact kb
  | .not a, t, w, h => by
    obtain ⟨ta, h1, h⟩ := bind_l h
    obtain ⟨ag, rfl⟩ := if_l h
    unfold ev
    rcases tok_flag ag (ev_tok hr a ta w h1) with e | ⟨b, e⟩ <;> rw [e]
    · exact .non _
    · exact .flag _
  | .null a, t, w, h => by
    obtain ⟨ta, h1, h⟩ := bind_l h
    cases h
    exact .flag _
  | .len a, t, w, h => by
    obtain ⟨ta, h1, h⟩ := bind_l h
    obtain ⟨ag, rfl⟩ := if_l h
    unfold ev
    rcases tok_text ag (ev_tok hr a ta w h1) with e | ⟨s, e, l⟩ <;> rw [e]
    · exact .non _
    · exact .whole _ (by omega)
end Lw
set_option maxHeartbeats 4000000
namespace Lw
open PySem Dn Dm DnSo
local macro_rules | `(tactic| simp! [$xs,*]) => `(tactic| simp (maxSteps := 4000000) only [backE, wipeE, wo_some, wo_none, wm_c, wm_var, wm_frz, wm_bin, wm_un, wm_tst, wm_tru, wm_truB, wm_chain, wm_and, wm_or, wm_not, wm_andV, wm_orV, wm_notV, wm_ifE, wm_nil, wm_cons, wm_app, wm_noP, wm_part, wm_sl, wm_pk, wm_io, wm_ix, wm_inB, wm_true, wm_seq, wm_rng1, wm_rng2,
    then_nx, then_ret, then_rof, then_brk, then_cnt, ws_next, ws_brk, ws_cnt, ws_seq, ws_if, ws_ret, ws_rof, ws_drop, ws_set, ws_own, ws_asg, wo_TN, wo_TNil, wo_TCons, wo_TTup, ws_ap, ws_setIx, ws_for, for_nil, turn_nx, turn_cnt, turn_brk, turn_ret, turn_rof, wm_lc, end_ret, end_nx, end_rof, end_io, ownOf_own, valOf_val, frz_val, frz_own, frz_ownD, ixO_l, ixO_d, cOwn_own, peek_val, peek_own, peek_ownD, by_val, by_own, canSet_none, canSet_val, canSet_own, lstOf_list,
    List.getElem?_cons_zero, List.getElem?_cons_succ, List.set_cons_zero, List.set_cons_succ, List.length_cons, List.length_nil, wo_ite, wo_bind, ↓reduceIte, and_true, true_and, and_self, Bool.false_eq_true, Bool.not_true, Bool.not_false, decide_eq_true_eq, decide_true, decide_false, oneInt_int, twoInts_int,
    add_ii, add_ll, add_tt, add_ss, sub_ii, mul_ii, mulS_ii, mod_ii, fdiv_ii, neg_i, le_ii, gt_ii, ge_ii, eqT_ii, eqT_ss, eqT_bb, eqT_nn, ltT_ii, ltT_ss, wo_eqD, wo_neD, wo_ltD, wo_inD, wo_ninD, is_n, isnt_n, is_bb, isnt_bb, isN, bOf_b, iOf_i, tru_b, tru_n, tru_i, tru_l, tru_t, seq_l, seq_t, tup_l, tup_t, lst_l, lst_t, len_l, len_t, int_i, int_b, abs_i, max_ii, min_ii, ix_li, ix_ti, cut_l, cut_t, flat_i, flat_b, flat_s, ix0, ix1, ix2, mkTup, mkLst,
    add2_ll, ws_par3, three_c, ws_grp, empty_own, lOwnD_own, wm_lcW, wm_getD, wm_ind, ix3, ix4, ix_m2, ix_m1, ix_p2, ix_p1, wm_newD, ws_setK, wm_get, wm_ixK, wm_sortN, ws_ext, dOwn_own, lOwn_own, lsD_list, step_nx, step_cnt, step_brk, step_ret, step_rof, wm_reve, rev_l, rev_t, wm_opBL, repr_l, sort_l, sum_l, wm_enum, enum_l, enum_t, enumL_nil, wm_dic, wm_kvn, wm_kvc, seq_s, mulT_si, len_s, ord_c, str_i, ty_d, k_lb, k_li, k_ls, k_tb, k_ti, k_ts, k_db, k_di, k_ds, k_lt, k_tl,
    isi_1, tyOk_n, tyOk_b, tyOk_i, tyOk_s, tyOk_l, tyOk_t, ty_n, ty_b, ty_i, ty_s, ty_l, ty_t, k_nb, k_bb, k_ib, k_sb, k_ni, k_bi, k_ii, k_si, k_ns, k_bs, k_is, k_ss, k_ll, k_tt,
    Int.reduceNeg, Int.reducePow, Int.reduceLT, Int.reduceLE, Int.reduceAdd, Int.reduceSub, Int.reduceMul, Int.reduceToNat, Nat.reduceAdd, Nat.reduceLeDiff, Nat.reduceEqDiff, Int.reduceEq, reduceCtorEq, ws_grpL, empty_ownL, wo_TLst, wg_P, wg_end, wg_then, theng_nx, wg_yield, wm_callG, wo_runG, List.nil_append, wx_okD, wx_okL, wx_okB, wx_okS, wx_cons, wx_call, wx_app, wx_bin, wx_tst, wx_not, wx_ite, thenx_nx, thenx_ret, thenx_rof, thenx_brk, thenx_cnt, wx_seq, wx_if, wx_ret, wx_drop, wx_set, wx_apd, ownL_own, wx_raise, strOf_s, wx_for, ws_noX, wx_tryA, wx_try, retq_ret, either_l, either_r, endq_nx, endq_ret, hL_hd, gL_hd, wo_runX, wx_own, wl_nil, wl_cons, wx_lc, wm_keys, wm_callIOF, $xs,*])
theorem sp_bounded (n : Int) : f_bounded [.int n] = some (bnd n) := by
  rw [← wo_eq]
  unfold f_bounded
  rw [wo_runV]
  show Ws g_bounded [some (.val (.int n))] _
  unfold g_bounded
  simp! []
  unfold bnd
  by_cases h : n > 1000000000 ∨ n < -1000000000
  · rw [if_pos h, if_pos (by split <;> omega)]
  · rw [if_neg h, if_neg (by split <;> omega)]
theorem leA_eqv : ∀ {xs ys : List D}, PyData.eqvAll xs ys = true → DnLe.leA xs ys = some true
  | [], [], _ => rfl
  | [], _ :: _, h => by rw [PyData.eqvAll] at h; cases h
  | _ :: _, [], h => by rw [PyData.eqvAll] at h; cases h
  | x :: xs, y :: ys, h => by
    rw [PyData.eqvAll, Bool.and_eq_true] at h
    rw [DnLe.leA, if_pos h.1]
    exact leA_eqv h.2
theorem leV {a b : D} (ha : gv a) (hb : gv b) : leF (vo a) (vo b) = some (.bool (!ltV b a)) := by
  have h1 := shaped_vo ha
  have h2 := shaped_vo hb
  have e := eqv_vo ha hb
  have lb := leB_vo ha hb
  obtain ⟨xs, ex⟩ := vo_tup a
  obtain ⟨ys, ey⟩ := vo_tup b
  rw [ex] at h1 e lb ⊢
  rw [ey] at h2 e lb ⊢
  unfold leF leT
  simp only [h1, h2, and_self, ↓reduceIte]
  cases q : PyData.eqv (.tuple xs) (.tuple ys) with
  | true =>
    rw [q] at e
    have e2 : ltV a b = false ∧ ltV b a = false := by simpa using e.symm
    have q2 : PyData.eqvAll xs ys = true := by rw [PyData.eqv] at q; exact q
    rw [leA_eqv q2, e2.2]
    rfl
  | false =>
    rw [q] at e
    have lb := lb q
    rw [DnLe.leB] at lb
    rw [lb]
    cases h1 : ltV a b with
    | true => rw [ltV_as9 ha hb h1]; rfl
    | false =>
      rw [h1] at e
      have e2 : ltV b a = true := by simpa using e.symm
      rw [e2]
      rfl
theorem sp_reckon {s : Sg} {ta tb t : Option Str} {u v : D} (ht : tyS s ta tb = .inl t) (hu : Tval ta u) (hv : Tval tb v) (nu : isN u = false) (nv : isN v = false) (na : s ≠ .and) (no : s ≠ .or) : f_reckon [.str (sgS s), u, v] = some (evS s u v) := by
  rw [← wo_eq]
  unfold f_reckon
  rw [wo_runV]
  show Ws g_reckon [some (.val (.str (sgS s))), some (.val u), some (.val v)] _
  unfold g_reckon
  have gu := tok_gv hu
  have gv' := tok_gv hv
  have twoI : (agr ta (some "whole") && agr tb (some "whole")) = true → ∃ i j : Int, (u = .int i ∧ v = .int j) ∧ (-1000000000 ≤ i ∧ i ≤ 1000000000) ∧ (-1000000000 ≤ j ∧ j ≤ 1000000000) := fun h => by
    rw [Bool.and_eq_true] at h
    rcases tok_whole h.1 hu with rfl | ⟨i, rfl, hi⟩
    · cases nu
    · rcases tok_whole h.2 hv with rfl | ⟨j, rfl, hj⟩
      · cases nv
      · exact ⟨i, j, ⟨rfl, rfl⟩, hi, hj⟩
  have cm : ∀ b : Bool, cmpV b u v = .bool b := fun b => by
    unfold cmpV
    rw [nu, nv, if_neg (by simp)]
  cases s with
  | and => exact absurd rfl na
  | or => exact absurd rfl no
  | eq =>
    simp! [sgS, str_iff, String.reduceEq, sp_vo gu, sp_vo gv', eqT_vo gu gv', evS, cm]
  | lt =>
    simp! [sgS, str_iff, String.reduceEq, sp_vo gu, sp_vo gv', ltT_vo gu gv', evS, cm]
  | le =>
    simp! [sgS, str_iff, String.reduceEq, sp_vo gu, sp_vo gv', leV gu gv', evS, cm]
  | add =>
    obtain ⟨ag, _⟩ := if_l ht
    obtain ⟨i, j, ⟨rfl, rfl⟩, hi, hj⟩ := twoI ag
    simp! [sgS, str_iff, String.reduceEq, sp_bounded, evS, arS]
  | sub =>
    obtain ⟨ag, _⟩ := if_l ht
    obtain ⟨i, j, ⟨rfl, rfl⟩, hi, hj⟩ := twoI ag
    simp! [sgS, str_iff, String.reduceEq, sp_bounded, evS, arS]
  | mul =>
    obtain ⟨ag, _⟩ := if_l ht
    obtain ⟨i, j, ⟨rfl, rfl⟩, hi, hj⟩ := twoI ag
    have hlog : i.natAbs.log2 + j.natAbs.log2 < 1000000 := log_ok 31 31 (by omega) (by omega) (by decide)
    simp! [sgS, str_iff, String.reduceEq, sp_bounded, evS, arS, hlog]
  | div =>
    obtain ⟨ag, _⟩ := if_l ht
    obtain ⟨i, j, ⟨rfl, rfl⟩, hi, hj⟩ := twoI ag
    by_cases h0 : j = 0
    · simp! [sgS, str_iff, String.reduceEq, sp_bounded, evS, dvS, h0]
    · have ed : fdivE (.int i) (.int j) = some (.int (i.fdiv j)) := if_pos ⟨h0, by omega, by omega⟩
      simp! [sgS, str_iff, String.reduceEq, sp_bounded, evS, dvS, h0, ed]
theorem start_ev {ps : List (Str × Str)} {r : List D} {n : Nat} {d r0 : D} (h : Ws (g_evaluate (fuel_evaluate n).1 (fuel_evaluate n).2) [some (.val d), some (.val (.tuple (ps.map fdD))), some (.val (.tuple r)), none, none] fun f ρ => Wo (endV (f, ρ)) fun x => x = r0) : (fuel_evaluate (n + 1)).1 [d, .tuple (ps.map fdD), .tuple r] = some r0 := by
  rw [← wo_eq]
  show Wo (runV 5 (g_evaluate (fuel_evaluate n).1 (fuel_evaluate n).2) [d, .tuple (ps.map fdD), .tuple r]) _
  rw [wo_runV]
  exact h
theorem sp_evb {ps : List (Str × Str)} {r : List D} {n : Nat} {s : Sg} {a b : Ex} {ta tb t : Option Str} (ht : tyS s ta tb = .inl t) (hu : Tval ta (ev ps r a)) (hv : Tval tb (ev ps r b))
    (ea : (fuel_evaluate n).1 [exD a, .tuple (ps.map fdD), .tuple r] = some (ev ps r a)) (eb : (fuel_evaluate n).1 [exD b, .tuple (ps.map fdD), .tuple r] = some (ev ps r b)) :
    (fuel_evaluate (n + 1)).2 [.tuple [.str "binary", .str (sgS s), exD a, exD b], .tuple (ps.map fdD), .tuple r] = some (evS s (ev ps r a) (ev ps r b)) := by
  have knb : ∀ b : Bool, eqT .none (.bool b) = some false := fun b => rfl
  generalize ev ps r a = u at *
  generalize ev ps r b = v at *
  rw [← wo_eq]
  show Wo (runV 7 (g_evaluate_binary (fuel_evaluate n).1 (fuel_evaluate n).2) [.tuple [.str "binary", .str (sgS s), exD a, exD b], .tuple (ps.map fdD), .tuple r]) _
  rw [wo_runV]
  show Ws (g_evaluate_binary (fuel_evaluate n).1 (fuel_evaluate n).2) [some (.val (.tuple [.str "binary", .str (sgS s), exD a, exD b])), some (.val (.tuple (ps.map fdD))), some (.val (.tuple r)), none, none, none, none] _
  unfold g_evaluate_binary
  have flags : (agr ta (some "flag") && agr tb (some "flag")) = true → (u = .none ∨ ∃ b, u = .bool b) ∧ (v = .none ∨ ∃ b, v = .bool b) := fun h => by
    rw [Bool.and_eq_true] at h
    exact ⟨tok_flag h.1 hu, tok_flag h.2 hv⟩
  have rest : s ≠ .and → s ≠ .or → ¬ (sgS s = "and") ∧ ¬ (sgS s = "or") := fun h1 h2 => by cases s <;> first | exact absurd rfl h1 | exact absurd rfl h2 | (constructor <;> decide)
  have nnone : ∀ d : D, isD d .none = some (.bool (isN d)) := fun d => rfl
  by_cases h1 : s = .and
  · subst h1
    obtain ⟨ag, _⟩ := if_l ht
    obtain ⟨fu, fv⟩ := flags ag
    rcases fu with rfl | ⟨x, rfl⟩ <;> rcases fv with rfl | ⟨y, rfl⟩
    · simp! [sgS, str_iff, String.reduceEq, ea, eb, evS, and3, knb]
    · cases y <;> simp! [sgS, str_iff, String.reduceEq, ea, eb, evS, and3, knb]
    · cases x <;> simp! [sgS, str_iff, String.reduceEq, ea, eb, evS, and3, knb]
    · cases x <;> cases y <;> simp! [sgS, str_iff, String.reduceEq, ea, eb, evS, and3, knb]
  by_cases h2 : s = .or
  · subst h2
    obtain ⟨ag, _⟩ := if_l ht
    obtain ⟨fu, fv⟩ := flags ag
    rcases fu with rfl | ⟨x, rfl⟩ <;> rcases fv with rfl | ⟨y, rfl⟩
    · simp! [sgS, str_iff, String.reduceEq, ea, eb, evS, or3, knb]
    · cases y <;> simp! [sgS, str_iff, String.reduceEq, ea, eb, evS, or3, knb]
    · cases x <;> simp! [sgS, str_iff, String.reduceEq, ea, eb, evS, or3, knb]
    · cases x <;> cases y <;> simp! [sgS, str_iff, String.reduceEq, ea, eb, evS, or3, knb]
  obtain ⟨n1, n2⟩ := rest h1 h2
  cases nu : isN u with
  | true =>
    have : u = .none := by cases u <;> first | rfl | cases nu
    subst this
    have e0 : evS s .none v = .none := by cases s <;> first | rfl | exact absurd rfl h1 | exact absurd rfl h2
    simp! [ea, eb, n1, n2, e0, nnone, nu]
  | false =>
    cases nv : isN v with
    | true =>
      have : v = .none := by cases v <;> first | rfl | cases nv
      subst this
      have e0 : evS s u .none = .none := by cases s <;> first | exact absurd rfl h1 | exact absurd rfl h2 | (cases u <;> first | rfl | simp [evS, cmpV, isN, arS, dvS])
      unfold isN at nu
      simp! [ea, eb, n1, n2, e0, nnone, nu]
    | false =>
      have er := sp_reckon ht hu hv nu nv h1 h2
      unfold isN at nu nv
      simp! [ea, eb, n1, n2, nnone, nu, nv, er]
theorem is_tr {d : D} (h : d = .none ∨ ∃ b, d = .bool b) : isE d (.bool true) = some (.bool (isT d)) := by
  rcases h with rfl | ⟨b, rfl⟩
  · rfl
  · cases b <;> rfl
theorem sp_evaluate {ps : List (Str × Str)} {ns : List Str} {r : List D} (hr : Row ps r) : ∀ (e : Ex) (n : Nat) (t : Option Str), 2 * hgt e ≤ n → wfE ns e → ty ps e = .inl t → (fuel_evaluate n).1 [exD e, .tuple (ps.map fdD), .tuple r] = some (ev ps r e) := by
  intro e
  induction e with
  | col x =>
    intro n t hn w h
    obtain ⟨n, rfl⟩ : ∃ m, n = m + 1 := ⟨n - 1, by have := hgt_pos (.col x); omega⟩
    refine start_ev ?_
    unfold g_evaluate
    unfold ty at h
    cases hk : lookK ps x with
    | none => rw [hk] at h; cases h
    | some k =>
      obtain ⟨nm, e⟩ := look_ix hk
      have hi : ixN ps x < r.length := by rw [hr.len]; exact (List.getElem?_eq_some_iff.mp e).1
      have hc := sp_column (ps := ps) (fd := .tuple (ps.map fdD)) (x := x) rfl
      rw [col_ix 0 hk, Nat.zero_add] at hc
      have hx : ixA r ((ixN ps x : Nat) : Int) = some ((r[ixN ps x]?).getD .none) := by
        rw [ixA_nat, List.getElem?_eq_getElem hi]
        rfl
      simp! [exD, str_iff, String.reduceEq, hc, hx, ev]
  | val d =>
    intro n t hn w h
    obtain ⟨n, rfl⟩ : ∃ m, n = m + 1 := ⟨n - 1, by have := hgt_pos (.val d); omega⟩
    refine start_ev ?_
    unfold g_evaluate
    simp! [exD, str_iff, String.reduceEq, ev]
  | bin s a b iha ihb =>
    intro n t hn w h
    simp only [hgt] at hn
    obtain ⟨n, rfl⟩ : ∃ m, n = m + 2 := ⟨n - 2, by omega⟩
    obtain ⟨ta, h1, h⟩ := bind_l h
    obtain ⟨tb, h2, h⟩ := bind_l h
    have ea := iha n ta (by omega) w.1 h1
    have eb := ihb n tb (by omega) w.2 h2
    have e2 := sp_evb h (ev_tok hr a ta w.1 h1) (ev_tok hr b tb w.2 h2) ea eb
    refine start_ev ?_
    unfold g_evaluate
    simp! [exD, str_iff, String.reduceEq, e2, ev]
  | pick c a b ihc iha ihb =>
    intro n t hn w h
    simp only [hgt] at hn
    obtain ⟨n, rfl⟩ : ∃ m, n = m + 1 := ⟨n - 1, by omega⟩
    obtain ⟨tc, h0, h⟩ := bind_l h
    obtain ⟨ta, h1, h⟩ := bind_l h
    obtain ⟨tb, h2, h⟩ := bind_l h
    obtain ⟨⟨ag, _⟩, _⟩ := if_l h
    have ec := ihc n tc (by omega) w.1 h0
    have ea := iha n ta (by omega) w.2.1 h1
    have eb := ihb n tb (by omega) w.2.2 h2
    have it := is_tr (tok_flag ag (ev_tok hr c tc w.1 h0))
    refine start_ev ?_
    unfold g_evaluate
    cases hb : isT (ev ps r c) <;> rw [hb] at it <;> simp! [exD, str_iff, String.reduceEq, ec, ea, eb, it, ev, hb]
  | not a iha =>
    intro n t hn w h
    simp only [hgt] at hn
    obtain ⟨n, rfl⟩ : ∃ m, n = m + 1 := ⟨n - 1, by omega⟩
    obtain ⟨ta, h1, h⟩ := bind_l h
    obtain ⟨ag, _⟩ := if_l h
    have ea := iha n ta (by omega) w h1
    refine start_ev ?_
    unfold g_evaluate
    rw [ev]
    rcases tok_flag ag (ev_tok hr a ta w h1) with e | ⟨b, e⟩ <;> rw [e] at ea ⊢ <;> simp! [exD, str_iff, String.reduceEq, ea, nt]
  | null a iha =>
    intro n t hn w h
    simp only [hgt] at hn
    obtain ⟨n, rfl⟩ : ∃ m, n = m + 1 := ⟨n - 1, by omega⟩
    obtain ⟨ta, h1, h⟩ := bind_l h
    have ea := iha n ta (by omega) w h1
    refine start_ev ?_
    unfold g_evaluate
    rw [ev]
    generalize ev ps r a = v at ea ⊢
    cases v <;> simp! [exD, str_iff, String.reduceEq, ea, isN]
  | len a iha =>
    intro n t hn w h
    simp only [hgt] at hn
    obtain ⟨n, rfl⟩ : ∃ m, n = m + 1 := ⟨n - 1, by omega⟩
    obtain ⟨ta, h1, h⟩ := bind_l h
    obtain ⟨ag, _⟩ := if_l h
    have ea := iha n ta (by omega) w h1
    refine start_ev ?_
    unfold g_evaluate
    rw [ev]
    rcases tok_text ag (ev_tok hr a ta w h1) with e | ⟨s, e, l⟩ <;> rw [e] at ea ⊢
    · simp! [exD, str_iff, String.reduceEq, ea, ln]
    · have l2 : s.length ≤ 16777216 := by omega
      simp! [exD, str_iff, String.reduceEq, ea, ln, l2]
end Lw
set_option maxHeartbeats 4000000
namespace Lw
open PySem Dn Dm DnSo
local macro_rules | `(tactic| simp! [$xs,*]) => `(tactic| simp (maxSteps := 4000000) only [backE, wipeE, wo_some, wo_none, wm_c, wm_var, wm_frz, wm_bin, wm_un, wm_tst, wm_tru, wm_truB, wm_chain, wm_and, wm_or, wm_not, wm_andV, wm_orV, wm_notV, wm_ifE, wm_nil, wm_cons, wm_app, wm_noP, wm_part, wm_sl, wm_pk, wm_io, wm_ix, wm_inB, wm_true, wm_seq, wm_rng1, wm_rng2,
    then_nx, then_ret, then_rof, then_brk, then_cnt, ws_next, ws_brk, ws_cnt, ws_seq, ws_if, ws_ret, ws_rof, ws_drop, ws_set, ws_own, ws_asg, wo_TN, wo_TNil, wo_TCons, wo_TTup, ws_ap, ws_setIx, ws_for, for_nil, turn_nx, turn_cnt, turn_brk, turn_ret, turn_rof, wm_lc, end_ret, end_nx, end_rof, end_io, ownOf_own, valOf_val, frz_val, frz_own, frz_ownD, ixO_l, ixO_d, cOwn_own, peek_val, peek_own, peek_ownD, by_val, by_own, canSet_none, canSet_val, canSet_own, lstOf_list,
    List.getElem?_cons_zero, List.getElem?_cons_succ, List.set_cons_zero, List.set_cons_succ, List.length_cons, List.length_nil, wo_ite, wo_bind, ↓reduceIte, and_true, true_and, and_self, Bool.false_eq_true, Bool.not_true, Bool.not_false, decide_eq_true_eq, decide_true, decide_false, oneInt_int, twoInts_int,
    add_ii, add_ll, add_tt, add_ss, sub_ii, mul_ii, mulS_ii, mod_ii, fdiv_ii, neg_i, le_ii, gt_ii, ge_ii, eqT_ii, eqT_ss, eqT_bb, eqT_nn, ltT_ii, ltT_ss, wo_eqD, wo_neD, wo_ltD, wo_inD, wo_ninD, is_n, isnt_n, is_bb, isnt_bb, isN, bOf_b, iOf_i, tru_b, tru_n, tru_i, tru_l, tru_t, seq_l, seq_t, tup_l, tup_t, lst_l, lst_t, len_l, len_t, int_i, int_b, abs_i, max_ii, min_ii, ix_li, ix_ti, cut_l, cut_t, flat_i, flat_b, flat_s, ix0, ix1, ix2, mkTup, mkLst,
    add2_ll, ws_par3, three_c, ws_grp, empty_own, lOwnD_own, wm_lcW, wm_getD, wm_ind, ix3, ix4, ix_m2, ix_m1, ix_p2, ix_p1, wm_newD, ws_setK, wm_get, wm_ixK, wm_sortN, ws_ext, dOwn_own, lOwn_own, lsD_list, step_nx, step_cnt, step_brk, step_ret, step_rof, wm_reve, rev_l, rev_t, wm_opBL, repr_l, sort_l, sum_l, wm_enum, enum_l, enum_t, enumL_nil, wm_dic, wm_kvn, wm_kvc, seq_s, mulT_si, len_s, ord_c, str_i, ty_d, k_lb, k_li, k_ls, k_tb, k_ti, k_ts, k_db, k_di, k_ds, k_lt, k_tl,
    isi_1, tyOk_n, tyOk_b, tyOk_i, tyOk_s, tyOk_l, tyOk_t, ty_n, ty_b, ty_i, ty_s, ty_l, ty_t, k_nb, k_bb, k_ib, k_sb, k_ni, k_bi, k_ii, k_si, k_ns, k_bs, k_is, k_ss, k_ll, k_tt,
    Int.reduceNeg, Int.reducePow, Int.reduceLT, Int.reduceLE, Int.reduceAdd, Int.reduceSub, Int.reduceMul, Int.reduceToNat, Nat.reduceAdd, Nat.reduceLeDiff, Nat.reduceEqDiff, Int.reduceEq, reduceCtorEq, ws_grpL, empty_ownL, wo_TLst, wg_P, wg_end, wg_then, theng_nx, wg_yield, wm_callG, wo_runG, List.nil_append, wx_okD, wx_okL, wx_okB, wx_okS, wx_cons, wx_call, wx_app, wx_bin, wx_tst, wx_not, wx_ite, thenx_nx, thenx_ret, thenx_rof, thenx_brk, thenx_cnt, wx_seq, wx_if, wx_ret, wx_drop, wx_set, wx_apd, ownL_own, wx_raise, strOf_s, wx_for, ws_noX, wx_tryA, wx_try, retq_ret, either_l, either_r, endq_nx, endq_ret, hL_hd, gL_hd, wo_runX, wx_own, wl_nil, wl_cons, wx_lc, wm_keys, wm_callIOF, $xs,*])
theorem strs_sh : ∀ {xs : List Str}, (∀ x ∈ xs, PyData.strOk x = true) → PyData.canLayAll0 (xs.map PyData.str) = true ∧ PyData.depthAll (xs.map PyData.str) = 0
  | [], _ => ⟨rfl, rfl⟩
  | x :: xs, h => by
    obtain ⟨a, b⟩ := strs_sh fun y hy => h y (List.mem_cons_of_mem _ hy)
    have hx := h x List.mem_cons_self
    rw [List.map_cons]
    exact ⟨by simp [PyData.canLayAll0, PyData.canLay0, hx, a], by simp [PyData.depthAll, PyData.depth, b]⟩
theorem strs_shaped {xs : List Str} (h : ∀ x ∈ xs, PyData.strOk x = true) : SeqAt.shaped (.list (xs.map PyData.str)) = true := by
  obtain ⟨a, b⟩ := strs_sh h
  simp [SeqAt.shaped, PyData.canLay0, PyData.depth, a, b]
theorem any_strs (x : Str) : ∀ xs : List Str, ((xs.map PyData.str).any fun z => PyData.eqv z (.str x)) = decide (x ∈ xs)
  | [] => rfl
  | y :: ys => by
    rw [List.map_cons, List.any_cons, any_strs x ys, PyData.eqv]
    by_cases h : y = x
    · simp [h]
    · have h' : ¬ x = y := fun e => h e.symm
      simp [h, h']
theorem in_strs {x : Str} {xs : List Str} (hx : PyData.strOk x = true) (h : ∀ y ∈ xs, PyData.strOk y = true) : inT (.str x) (.list (xs.map PyData.str)) = some (decide (x ∈ xs)) := by
  show (if _ then _ else _) = _
  rw [if_pos ⟨by simp [SeqAt.shaped, PyData.canLay0, PyData.depth, hx], strs_shaped h⟩, any_strs]
def uni (acc l : List Str) : List Str := acc ++ l.filter fun x => !decide (x ∈ acc)
theorem mem_uni {acc l : List Str} {x : Str} : x ∈ uni acc l ↔ x ∈ acc ∨ x ∈ l := by
  unfold uni
  rw [List.mem_append, List.mem_filter]
  by_cases h : x ∈ acc
  · simp [h]
  · simp [h]
theorem uni_len (acc l : List Str) : (uni acc l).length ≤ acc.length + l.length := by
  unfold uni
  rw [List.length_append]
  have := List.length_filter_le (fun x => !decide (x ∈ acc)) l
  omega
def colsE : Ex → List Str
  | .col x => [x]
  | .val _ => []
  | .bin _ a b => uni (uni [] (colsE a)) (colsE b)
  | .pick c a b => uni (uni (uni [] (colsE c)) (colsE a)) (colsE b)
  | .not a => uni [] (colsE a)
  | .null a => uni [] (colsE a)
  | .len a => uni [] (colsE a)
theorem cols_fold (e : Ex) (h : ∀ x, e ≠ .col x) : colsE e = (prtE e).foldl (fun acc p => uni acc (colsE p)) [] := by
  cases e with
  | col x => exact absurd rfl (h x)
  | _ => rfl
theorem cols_len : ∀ (e : Ex), (colsE e).length ≤ 3 ^ hgt e
  | .col x => by simp [colsE, hgt]
  | .val _ => by simp [colsE]
  | .bin _ a b => by
    have h1 := cols_len a
    have h2 := cols_len b
    have h3 := uni_len [] (colsE a)
    have h4 := uni_len (uni [] (colsE a)) (colsE b)
    have p1 : 3 ^ hgt a ≤ 3 ^ max (hgt a) (hgt b) := Nat.pow_le_pow_right (by decide) (by omega)
    have p2 : 3 ^ hgt b ≤ 3 ^ max (hgt a) (hgt b) := Nat.pow_le_pow_right (by decide) (by omega)
    simp only [List.length_nil] at h3
    simp only [colsE, hgt, Nat.pow_succ]
    omega
  | .pick c a b => by
    have h0 := cols_len c
    have h1 := cols_len a
    have h2 := cols_len b
    have h3 := uni_len [] (colsE c)
    have h4 := uni_len (uni [] (colsE c)) (colsE a)
    have h5 := uni_len (uni (uni [] (colsE c)) (colsE a)) (colsE b)
    have p0 : 3 ^ hgt c ≤ 3 ^ max (hgt c) (max (hgt a) (hgt b)) := Nat.pow_le_pow_right (by decide) (by omega)
    have p1 : 3 ^ hgt a ≤ 3 ^ max (hgt c) (max (hgt a) (hgt b)) := Nat.pow_le_pow_right (by decide) (by omega)
    have p2 : 3 ^ hgt b ≤ 3 ^ max (hgt c) (max (hgt a) (hgt b)) := Nat.pow_le_pow_right (by decide) (by omega)
    simp only [List.length_nil] at h3
    simp only [colsE, hgt, Nat.pow_succ]
    omega
  | .not a => by
    have h1 := cols_len a
    have h3 := uni_len [] (colsE a)
    simp only [List.length_nil] at h3
    simp only [colsE, hgt, Nat.pow_succ]
    omega
  | .null a => by
    have h1 := cols_len a
    have h3 := uni_len [] (colsE a)
    simp only [List.length_nil] at h3
    simp only [colsE, hgt, Nat.pow_succ]
    omega
  | .len a => by
    have h1 := cols_len a
    have h3 := uni_len [] (colsE a)
    simp only [List.length_nil] at h3
    simp only [colsE, hgt, Nat.pow_succ]
    omega
theorem cols_in {ns : List Str} : ∀ (e : Ex), wfE ns e → ∀ x ∈ colsE e, x ∈ ns
  | .col y, w, x, h => by rw [List.mem_singleton.mp h]; exact w.1
  | .val _, w, x, h => by cases h
  | .bin _ a b, w, x, h => (mem_uni.mp h).elim (fun h => (mem_uni.mp h).elim (fun h => by cases h) (cols_in a w.1 x)) (cols_in b w.2 x)
  | .pick c a b, w, x, h => (mem_uni.mp h).elim (fun h => (mem_uni.mp h).elim (fun h => (mem_uni.mp h).elim (fun h => by cases h) (cols_in c w.1 x)) (cols_in a w.2.1 x)) (cols_in b w.2.2 x)
  | .not a, w, x, h => (mem_uni.mp h).elim (fun h => by cases h) (cols_in a w x)
  | .null a, w, x, h => (mem_uni.mp h).elim (fun h => by cases h) (cols_in a w x)
  | .len a, w, x, h => (mem_uni.mp h).elim (fun h => by cases h) (cols_in a w x)
theorem cols_loop {r : List D → Option D} {d : D} {S : Fl → Dn.Env → Prop} : ∀ (l : List Ex) (acc : List Str) (o2 : Option Cell), canSet (some o2) = some () →
    (∀ p ∈ l, r [exD p] = some (.list ((colsE p).map PyData.str)) ∧ (∀ x ∈ colsE p, PyData.strOk x = true) ∧ (colsE p).length ≤ 1000) → (∀ x ∈ acc, PyData.strOk x = true) → acc.length + 1000 * l.length ≤ 10000 →
    (∀ o2 : Option Cell, S .nx [some (.val d), some (.own false (.list ((l.foldl (fun acc p => uni acc (colsE p)) acc).map PyData.str))), o2, none]) →
    Ws (forD (gTN 2) (sExt 1 (gLc [3] (gSeq (gApp r (gCons (gVar 2) gNil))) (gTN 3) (gTst (gInB true 1 (gVar 3))) (gVar 3))) (l.map exD)) [some (.val d), some (.own false (.list (acc.map PyData.str))), o2, none] S
  | [], acc, o2, h2, hl, ha, hb, q => by
    rw [List.map_nil]
    simp! []
    exact q o2
  | p :: l, acc, o2, h2, hl, ha, hb, q => by
    obtain ⟨e1, e2, e3⟩ := hl p List.mem_cons_self
    rw [List.length_cons] at hb
    rw [List.map_cons, for_cons]
    simp! [h2, e1, List.length_map]
    refine ⟨⟨by omega, rfl⟩, ?_⟩
    refine lc_filterA PyData.str PyData.str (fun x => !decide (x ∈ acc)) (colsE p) (fun x hx => ?_) ?_
    · have ht := in_strs (x := x) (xs := acc) (e2 x hx) ha
      simp! [ht]
      by_cases c : x ∈ acc
      · simp [c]
      · simp [c]
    · have hf := List.length_filter_le (fun x => !decide (x ∈ acc)) (colsE p)
      simp! [backE, List.length_map]
      refine ⟨by omega, ?_⟩
      rw [← List.map_append]
      refine cols_loop l (uni acc (colsE p)) _ rfl (fun p' hp' => hl p' (List.mem_cons_of_mem _ hp')) (fun x hx => (mem_uni.mp hx).elim (ha x) (e2 x)) (by have := uni_len acc (colsE p); omega) ?_
      exact fun o2 => q o2
theorem sp_columns_of {ns : List Str} (hns : ∀ x ∈ ns, PyData.strOk x = true) : ∀ (n : Nat) (e : Ex), hgt e ≤ n → hgt e ≤ 6 → wfE ns e → fuel_columns_of n [exD e] = some (.list ((colsE e).map PyData.str))
  | 0, e, h, _, _ => by have := hgt_pos e; omega
  | n + 1, e, h, h6, w => by
    rw [← wo_eq]
    show Wo (runV 4 (g_columns_of (fuel_columns_of n)) [exD e]) _
    rw [wo_runV]
    show Ws (g_columns_of (fuel_columns_of n)) [some (.val (exD e)), none, none, none] _
    unfold g_columns_of
    by_cases hc : ∃ x, e = .col x
    · obtain ⟨x, rfl⟩ := hc
      simp! [exD, str_iff, String.reduceEq]
      rfl
    · have hc' : ∀ x, e ≠ .col x := fun x h => hc ⟨x, h⟩
      have hp := sp_parts e
      have hw : ∃ k, ixD (exD e) (.int 0) = some (.str k) ∧ eqT (.str k) (.str "column") = some false := by
        cases e with
        | col x => exact absurd rfl (hc' x)
        | _ => exact ⟨_, rfl, by decide +kernel⟩
      obtain ⟨k, k1, k2⟩ := hw
      simp! [k1, k2, hp]
      have hsub : ∀ p ∈ prtE e, hgt p + 1 ≤ hgt e ∧ wfE ns p := fun p hp => by
        cases e with
        | col x => cases hp
        | val d => cases hp
        | bin s a b =>
          simp only [prtE, List.mem_cons, List.not_mem_nil, or_false] at hp
          simp only [hgt]
          rcases hp with rfl | rfl
          · exact ⟨by omega, w.1⟩
          · exact ⟨by omega, w.2⟩
        | pick c a b =>
          simp only [prtE, List.mem_cons, List.not_mem_nil, or_false] at hp
          simp only [hgt]
          rcases hp with rfl | rfl | rfl
          · exact ⟨by omega, w.1⟩
          · exact ⟨by omega, w.2.1⟩
          · exact ⟨by omega, w.2.2⟩
        | not a => rw [List.mem_singleton.mp hp]; exact ⟨Nat.le_refl _, w⟩
        | null a => rw [List.mem_singleton.mp hp]; exact ⟨Nat.le_refl _, w⟩
        | len a => rw [List.mem_singleton.mp hp]; exact ⟨Nat.le_refl _, w⟩
      have hlen : (prtE e).length ≤ 3 := by cases e <;> simp [prtE]
      refine cols_loop (prtE e) [] none rfl (fun p hp => ?_) (fun x hx => by cases hx) (by simp only [List.length_nil]; omega) fun o2 => ?_
      · obtain ⟨z1, z2⟩ := hsub p hp
        refine ⟨sp_columns_of hns n p (by omega) (by omega) z2, fun x hx => hns x (cols_in p z2 x hx), ?_⟩
        have := cols_len p
        have : 3 ^ hgt p ≤ 3 ^ 6 := Nat.pow_le_pow_right (by decide) (by omega)
        omega
      · simp! []
        rw [cols_fold e hc']
end Lw
set_option maxHeartbeats 4000000
namespace Lw
open PySem Dn Dm DnSo
local macro_rules | `(tactic| simp! [$xs,*]) => `(tactic| simp (maxSteps := 4000000) only [backE, wipeE, wo_some, wo_none, wm_c, wm_var, wm_frz, wm_bin, wm_un, wm_tst, wm_tru, wm_truB, wm_chain, wm_and, wm_or, wm_not, wm_andV, wm_orV, wm_notV, wm_ifE, wm_nil, wm_cons, wm_app, wm_noP, wm_part, wm_sl, wm_pk, wm_io, wm_ix, wm_inB, wm_true, wm_seq, wm_rng1, wm_rng2,
    then_nx, then_ret, then_rof, then_brk, then_cnt, ws_next, ws_brk, ws_cnt, ws_seq, ws_if, ws_ret, ws_rof, ws_drop, ws_set, ws_own, ws_asg, wo_TN, wo_TNil, wo_TCons, wo_TTup, ws_ap, ws_setIx, ws_for, for_nil, turn_nx, turn_cnt, turn_brk, turn_ret, turn_rof, wm_lc, end_ret, end_nx, end_rof, end_io, ownOf_own, valOf_val, frz_val, frz_own, frz_ownD, ixO_l, ixO_d, cOwn_own, peek_val, peek_own, peek_ownD, by_val, by_own, canSet_none, canSet_val, canSet_own, lstOf_list,
    List.getElem?_cons_zero, List.getElem?_cons_succ, List.set_cons_zero, List.set_cons_succ, List.length_cons, List.length_nil, wo_ite, wo_bind, ↓reduceIte, and_true, true_and, and_self, Bool.false_eq_true, Bool.not_true, Bool.not_false, decide_eq_true_eq, decide_true, decide_false, oneInt_int, twoInts_int,
    add_ii, add_ll, add_tt, add_ss, sub_ii, mul_ii, mulS_ii, mod_ii, fdiv_ii, neg_i, le_ii, gt_ii, ge_ii, eqT_ii, eqT_ss, eqT_bb, eqT_nn, ltT_ii, ltT_ss, wo_eqD, wo_neD, wo_ltD, wo_inD, wo_ninD, is_n, isnt_n, is_bb, isnt_bb, isN, bOf_b, iOf_i, tru_b, tru_n, tru_i, tru_l, tru_t, seq_l, seq_t, tup_l, tup_t, lst_l, lst_t, len_l, len_t, int_i, int_b, abs_i, max_ii, min_ii, ix_li, ix_ti, cut_l, cut_t, flat_i, flat_b, flat_s, ix0, ix1, ix2, mkTup, mkLst,
    add2_ll, ws_par3, three_c, ws_grp, empty_own, lOwnD_own, wm_lcW, wm_getD, wm_ind, ix3, ix4, ix_m2, ix_m1, ix_p2, ix_p1, wm_newD, ws_setK, wm_get, wm_ixK, wm_sortN, ws_ext, dOwn_own, lOwn_own, lsD_list, step_nx, step_cnt, step_brk, step_ret, step_rof, wm_reve, rev_l, rev_t, wm_opBL, repr_l, sort_l, sum_l, wm_enum, enum_l, enum_t, enumL_nil, wm_dic, wm_kvn, wm_kvc, seq_s, mulT_si, len_s, ord_c, str_i, ty_d, k_lb, k_li, k_ls, k_tb, k_ti, k_ts, k_db, k_di, k_ds, k_lt, k_tl,
    isi_1, tyOk_n, tyOk_b, tyOk_i, tyOk_s, tyOk_l, tyOk_t, ty_n, ty_b, ty_i, ty_s, ty_l, ty_t, k_nb, k_bb, k_ib, k_sb, k_ni, k_bi, k_ii, k_si, k_ns, k_bs, k_is, k_ss, k_ll, k_tt,
    Int.reduceNeg, Int.reducePow, Int.reduceLT, Int.reduceLE, Int.reduceAdd, Int.reduceSub, Int.reduceMul, Int.reduceToNat, Nat.reduceAdd, Nat.reduceLeDiff, Nat.reduceEqDiff, Int.reduceEq, reduceCtorEq, ws_grpL, empty_ownL, wo_TLst, wg_P, wg_end, wg_then, theng_nx, wg_yield, wm_callG, wo_runG, List.nil_append, wx_okD, wx_okL, wx_okB, wx_okS, wx_cons, wx_call, wx_app, wx_bin, wx_tst, wx_not, wx_ite, thenx_nx, thenx_ret, thenx_rof, thenx_brk, thenx_cnt, wx_seq, wx_if, wx_ret, wx_drop, wx_set, wx_apd, ownL_own, wx_raise, strOf_s, wx_for, ws_noX, wx_tryA, wx_try, retq_ret, either_l, either_r, endq_nx, endq_ret, hL_hd, gL_hd, wo_runX, wx_own, wl_nil, wl_cons, wx_lc, wm_keys, wm_callIOF, $xs,*])
def okO : Option Str → Prop
  | none => True
  | some k => kd k
def okTy : Ty → Prop
  | .inl t => okO t
  | .inr m => PyData.strOk m = true
theorem bind_ok {r : Ty} {f : Option Str → Ty} (h : okTy r) (hf : ∀ t, okO t → okTy (f t)) : okTy (bindT r f) := by
  cases r with
  | inl t => exact hf t h
  | inr m => exact h
theorem differ_ok : PyData.strOk differS = true := by decide +kernel
theorem if_ok {p : Prop} [Decidable p] {t : Option Str} (h : okO t) : okTy (if p then .inl t else .inr differS) := by
  split
  · exact h
  · exact differ_ok
theorem kdf : okO (some "flag") := .inl rfl
theorem kdw : okO (some "whole") := .inr (.inl rfl)
theorem kdt : okO (some "text") := .inr (.inr rfl)
theorem look_kd {x : Str} : ∀ {ps : List (Str × Str)}, (∀ p ∈ ps, kd p.2) → ∀ k, lookK ps x = some k → kd k
  | [], _, k, h => by cases h
  | p :: ps, hk, k, h => by
    unfold lookK at h
    split at h
    · cases h
      exact hk p List.mem_cons_self
    · exact look_kd (fun q hq => hk q (List.mem_cons_of_mem _ hq)) k h
theorem ty_ok {ps : List (Str × Str)} {ns : List Str} (hk : ∀ p ∈ ps, kd p.2) (hn : ∀ x ∈ ns, PyData.strOk (noC x) = true) : ∀ e, wfE ns e → okTy (ty ps e)
  | .col x, w => by
    unfold ty
    cases h : lookK ps x with
    | none => exact hn x w.1
    | some k => exact look_kd hk k h
  | .val d, w => by
    unfold ty
    rcases gv_cases w.1 with rfl | ⟨b, rfl⟩ | ⟨i, rfl⟩ | ⟨s, rfl⟩
    · trivial
    · exact kdf
    · exact kdw
    · exact kdt
  | .bin s a b, w => bind_ok (ty_ok hk hn a w.1) fun ta _ => bind_ok (ty_ok hk hn b w.2) fun tb _ => by
    unfold tyS
    cases s <;> first | exact if_ok kdf | exact if_ok kdw
  | .pick c a b, w => bind_ok (ty_ok hk hn c w.1) fun tc _ => bind_ok (ty_ok hk hn a w.2.1) fun ta ha => bind_ok (ty_ok hk hn b w.2.2) fun tb hb => if_ok (by
    split
    · exact hb
    · exact ha)
  | .not a, w => bind_ok (ty_ok hk hn a w) fun ta _ => if_ok kdf
  | .null a, w => bind_ok (ty_ok hk hn a w) fun ta _ => kdf
  | .len a, w => bind_ok (ty_ok hk hn a w) fun ta _ => if_ok kdw
abbrev Mp := List (Str × Ex)
def mlk : Mp → Str → Option Ex
  | [], _ => none
  | p :: M, x => if p.1 = x then some p.2 else mlk M x
theorem mlk_mem {x : Str} {m : Ex} : ∀ {M : Mp}, mlk M x = some m → (x, m) ∈ M
  | [], h => by cases h
  | p :: M, h => by
    unfold mlk at h
    split at h
    · rename_i e
      cases h
      rw [← e]
      exact List.mem_cons_self
    · exact List.mem_cons_of_mem _ (mlk_mem h)
def subE (M : Mp) : Ex → Ex
  | .col x => (mlk M x).getD (.col x)
  | .val d => .val d
  | .bin s a b => .bin s (subE M a) (subE M b)
  | .pick c a b => .pick (subE M c) (subE M a) (subE M b)
  | .not a => .not (subE M a)
  | .null a => .null (subE M a)
  | .len a => .len (subE M a)
theorem sub_nil : ∀ e : Ex, subE [] e = e
  | .col x => rfl
  | .val d => rfl
  | .bin s a b => by rw [subE, sub_nil a, sub_nil b]
  | .pick c a b => by rw [subE, sub_nil c, sub_nil a, sub_nil b]
  | .not a => by rw [subE, sub_nil a]
  | .null a => by rw [subE, sub_nil a]
  | .len a => by rw [subE, sub_nil a]
def mpD (M : Mp) : List (D × D) := M.map fun p => (.str p.1, exD p.2)
theorem lkp_mp (x : Str) : ∀ M : Mp, lkp (mpD M) (.str x) = (mlk M x).map exD
  | [] => rfl
  | p :: M => by
    have ih := lkp_mp x M
    unfold mpD at ih ⊢
    rw [List.map_cons, lkp, mlk, ih, keyEq]
    by_cases e : p.1 = x
    · rw [if_pos (decide_eq_true e), if_pos e]
      rfl
    · rw [if_neg (by simp [e]), if_neg e]
theorem all_mp (M : Mp) : (mpD M).all (fun p => isKey p.1) = true := by
  unfold mpD
  rw [List.all_map, List.all_eq_true]
  exact fun p _ => rfl
theorem dk_mp {p : Str × Ex} {M : Mp} : dkOk (mpD (p :: M)) = true := by
  have h := all_mp (p :: M)
  unfold mpD at h ⊢
  rw [List.map_cons] at h ⊢
  unfold dkOk
  exact h
theorem frz_mp (M : Mp) : ∃ es, frzT (mpD M) = .dict es ∧ dkOk es = true ∧ ∀ x, lkp es (.str x) = (mlk M x).map exD := by
  cases M with
  | nil => exact ⟨_, rfl, rfl, fun x => rfl⟩
  | cons p M => exact ⟨_, rfl, dk_mp, fun x => lkp_mp x (p :: M)⟩
theorem get_mp (M : Mp) (x : Str) (d : D) : getU (frzT (mpD M)) (.str x) d = some (((mlk M x).map exD).getD d) := by
  obtain ⟨es, e1, e2, e3⟩ := frz_mp M
  rw [e1]
  show (if _ then _ else _) = _
  rw [if_pos ⟨rfl, e2⟩, e3]
theorem in_mp (M : Mp) (x : Str) : inU (.str x) (frzT (mpD M)) = some (.bool (mlk M x).isSome) := by
  obtain ⟨es, e1, e2, e3⟩ := frz_mp M
  rw [e1]
  show (if _ then _ else _) = _
  rw [if_pos ⟨rfl, e2⟩, e3]
  cases mlk M x <;> rfl
theorem ix_mp (M : Mp) (x : Str) : ixU (frzT (mpD M)) (.str x) = (mlk M x).map exD := by
  obtain ⟨es, e1, e2, e3⟩ := frz_mp M
  rw [e1]
  show (if isKey (.str x) = true then lkp es (.str x) else none) = _
  rw [if_pos (show isKey (.str x) = true from rfl), e3]
theorem put_mp {M : Mp} {x : Str} (m : Ex) (h : ∀ p ∈ M, p.1 ≠ x) : putU (mpD M) (.str x) (exD m) = mpD (M ++ [(x, m)]) := by
  unfold putU
  rw [if_neg]
  · unfold mpD
    rw [List.map_append]
    rfl
  · intro z
    unfold mpD at z
    rw [List.any_map] at z
    obtain ⟨p, hp, e⟩ := List.any_eq_true.mp z
    exact h p hp (of_decide_eq_true e)
theorem wm_getU {go gk gx : Md D} {ρ : Dn.Env} {Q : D → Dn.Env → Prop} : Wm (gGetU go gk gx) ρ Q ↔ Wm go ρ fun o ρ1 => Wm gk ρ1 fun k ρ2 => Wm gx ρ2 fun x ρ3 => Wo (getU o k x) fun r => Q r ρ3 := by
  unfold Wm gGetU
  simp only [wo_bind, wo_some]
theorem sub_col (M : Mp) (x : Str) : ((mlk M x).map exD).getD (.tuple [.str "column", .str x]) = exD (subE M (.col x)) := by
  unfold subE
  cases mlk M x <;> rfl
theorem sp_sub (M : Mp) : ∀ (n : Nat) (e : Ex), hgt e ≤ n → fuel_substituted n [exD e, frzT (mpD M)] = some (exD (subE M e))
  | 0, e, h => by have := hgt_pos e; omega
  | n + 1, e, h => by
    rw [← wo_eq]
    show Wo (runV 4 (g_substituted (fuel_substituted n)) [exD e, frzT (mpD M)]) _
    rw [wo_runV]
    show Ws (g_substituted (fuel_substituted n)) [some (.val (exD e)), some (.val (frzT (mpD M))), none, none] _
    unfold g_substituted
    have hp := sp_parts e
    have hlen : (prtE e).length ≤ 3 := by cases e <;> simp [prtE]
    have step : (∀ p ∈ prtE e, hgt p ≤ n) → ∀ p ∈ prtE e, fuel_substituted n [exD p, frzT (mpD M)] = some (exD (subE M p)) := fun h p hp => sp_sub M n p (h p hp)
    have lc : ∀ (Q : List D × Dn.Env → Prop), (∀ p ∈ prtE e, hgt p ≤ n) → Q ((prtE e).map (fun p => exD (subE M p)), [some (.val (exD e)), some (.val (frzT (mpD M))), none, none]) → Wo (lcD [3] (gTN 3) gTrue (gApp (fuel_substituted n) (gCons (gVar 3) (gCons (gVar 1) gNil))) ((prtE e).map exD) [some (.val (exD e)), some (.val (frzT (mpD M))), none, none]) Q := fun Q hh q => by
      refine lc_mapA exD (fun p => exD (subE M p)) (prtE e) (fun p hp => ?_) q
      have s := step hh p hp
      simp! [s]
      all_goals rfl
    cases e with
    | col x =>
      simp! [exD, str_iff, String.reduceEq, wm_getU, get_mp, sub_col]
    | val d => simp! [exD, str_iff, String.reduceEq, subE]
    | bin s a b =>
      simp only [hgt] at h
      simp only [exD] at hp lc
      simp! [exD, str_iff, String.reduceEq, hp, List.length_map]
      refine ⟨⟨by omega, rfl⟩, lc _ (fun p hp => ?_) ?_⟩
      · simp only [prtE, List.mem_cons, List.not_mem_nil, or_false] at hp
        rcases hp with rfl | rfl <;> omega
      · simp! [backE, prtE, List.map_cons, List.map_nil, subE, exD]
    | pick c a b =>
      simp only [hgt] at h
      simp only [exD] at hp lc
      simp! [exD, str_iff, String.reduceEq, hp, List.length_map]
      refine ⟨⟨by omega, rfl⟩, lc _ (fun p hp => ?_) ?_⟩
      · simp only [prtE, List.mem_cons, List.not_mem_nil, or_false] at hp
        rcases hp with rfl | rfl | rfl <;> omega
      · simp! [backE, prtE, List.map_cons, List.map_nil, subE, exD, List.cons_append, List.nil_append]
        all_goals first | trivial | rfl
    | not a =>
      simp only [hgt] at h
      simp only [exD] at hp lc
      simp! [exD, str_iff, String.reduceEq, hp, List.length_map]
      refine ⟨⟨by omega, rfl⟩, lc _ (fun p hp => ?_) ?_⟩
      · rw [List.mem_singleton.mp hp]; omega
      · simp! [backE, prtE, List.map_cons, List.map_nil, subE, exD, List.cons_append, List.nil_append]
        all_goals first | trivial | rfl
    | null a =>
      simp only [hgt] at h
      simp only [exD] at hp lc
      simp! [exD, str_iff, String.reduceEq, hp, List.length_map]
      refine ⟨⟨by omega, rfl⟩, lc _ (fun p hp => ?_) ?_⟩
      · rw [List.mem_singleton.mp hp]; omega
      · simp! [backE, prtE, List.map_cons, List.map_nil, subE, exD, List.cons_append, List.nil_append]
        all_goals first | trivial | rfl
    | len a =>
      simp only [hgt] at h
      simp only [exD] at hp lc
      simp! [exD, str_iff, String.reduceEq, hp, List.length_map]
      refine ⟨⟨by omega, rfl⟩, lc _ (fun p hp => ?_) ?_⟩
      · rw [List.mem_singleton.mp hp]; omega
      · simp! [backE, prtE, List.map_cons, List.map_nil, subE, exD, List.cons_append, List.nil_append]
        all_goals first | trivial | rfl
end Lw
set_option maxHeartbeats 4000000
namespace Lw
open PySem Dn Dm DnSo
local macro_rules | `(tactic| simp! [$xs,*]) => `(tactic| simp (maxSteps := 4000000) only [backE, wipeE, wo_some, wo_none, wm_c, wm_var, wm_frz, wm_bin, wm_un, wm_tst, wm_tru, wm_truB, wm_chain, wm_and, wm_or, wm_not, wm_andV, wm_orV, wm_notV, wm_ifE, wm_nil, wm_cons, wm_app, wm_noP, wm_part, wm_sl, wm_pk, wm_io, wm_ix, wm_inB, wm_true, wm_seq, wm_rng1, wm_rng2,
    then_nx, then_ret, then_rof, then_brk, then_cnt, ws_next, ws_brk, ws_cnt, ws_seq, ws_if, ws_ret, ws_rof, ws_drop, ws_set, ws_own, ws_asg, wo_TN, wo_TNil, wo_TCons, wo_TTup, ws_ap, ws_setIx, ws_for, for_nil, turn_nx, turn_cnt, turn_brk, turn_ret, turn_rof, wm_lc, end_ret, end_nx, end_rof, end_io, ownOf_own, valOf_val, frz_val, frz_own, frz_ownD, ixO_l, ixO_d, cOwn_own, peek_val, peek_own, peek_ownD, by_val, by_own, canSet_none, canSet_val, canSet_own, lstOf_list,
    List.getElem?_cons_zero, List.getElem?_cons_succ, List.set_cons_zero, List.set_cons_succ, List.length_cons, List.length_nil, wo_ite, wo_bind, ↓reduceIte, and_true, true_and, and_self, Bool.false_eq_true, Bool.not_true, Bool.not_false, decide_eq_true_eq, decide_true, decide_false, oneInt_int, twoInts_int,
    add_ii, add_ll, add_tt, add_ss, sub_ii, mul_ii, mulS_ii, mod_ii, fdiv_ii, neg_i, le_ii, gt_ii, ge_ii, eqT_ii, eqT_ss, eqT_bb, eqT_nn, ltT_ii, ltT_ss, wo_eqD, wo_neD, wo_ltD, wo_inD, wo_ninD, is_n, isnt_n, is_bb, isnt_bb, isN, bOf_b, iOf_i, tru_b, tru_n, tru_i, tru_l, tru_t, seq_l, seq_t, tup_l, tup_t, lst_l, lst_t, len_l, len_t, int_i, int_b, abs_i, max_ii, min_ii, ix_li, ix_ti, cut_l, cut_t, flat_i, flat_b, flat_s, ix0, ix1, ix2, mkTup, mkLst,
    add2_ll, ws_par3, three_c, ws_grp, empty_own, lOwnD_own, wm_lcW, wm_getD, wm_ind, ix3, ix4, ix_m2, ix_m1, ix_p2, ix_p1, wm_newD, ws_setK, wm_get, wm_ixK, wm_sortN, ws_ext, dOwn_own, lOwn_own, lsD_list, step_nx, step_cnt, step_brk, step_ret, step_rof, wm_reve, rev_l, rev_t, wm_opBL, repr_l, sort_l, sum_l, wm_enum, enum_l, enum_t, enumL_nil, wm_dic, wm_kvn, wm_kvc, seq_s, mulT_si, len_s, ord_c, str_i, ty_d, k_lb, k_li, k_ls, k_tb, k_ti, k_ts, k_db, k_di, k_ds, k_lt, k_tl,
    isi_1, tyOk_n, tyOk_b, tyOk_i, tyOk_s, tyOk_l, tyOk_t, ty_n, ty_b, ty_i, ty_s, ty_l, ty_t, k_nb, k_bb, k_ib, k_sb, k_ni, k_bi, k_ii, k_si, k_ns, k_bs, k_is, k_ss, k_ll, k_tt,
    Int.reduceNeg, Int.reducePow, Int.reduceLT, Int.reduceLE, Int.reduceAdd, Int.reduceSub, Int.reduceMul, Int.reduceToNat, Nat.reduceAdd, Nat.reduceLeDiff, Nat.reduceEqDiff, Int.reduceEq, reduceCtorEq, ws_grpL, empty_ownL, wo_TLst, wg_P, wg_end, wg_then, theng_nx, wg_yield, wm_callG, wo_runG, List.nil_append, wx_okD, wx_okL, wx_okB, wx_okS, wx_cons, wx_call, wx_app, wx_bin, wx_tst, wx_not, wx_ite, thenx_nx, thenx_ret, thenx_rof, thenx_brk, thenx_cnt, wx_seq, wx_if, wx_ret, wx_drop, wx_set, wx_apd, ownL_own, wx_raise, strOf_s, wx_for, ws_noX, wx_tryA, wx_try, retq_ret, either_l, either_r, endq_nx, endq_ret, hL_hd, gL_hd, wo_runX, wx_own, wl_nil, wl_cons, wx_lc, wm_keys, wm_callIOF, $xs,*])
theorem sub_wf {ns : List Str} {M : Mp} (h : ∀ p ∈ M, wfE ns p.2) : ∀ e, wfE ns e → wfE ns (subE M e)
  | .col x, w => by
    unfold subE
    cases q : mlk M x with
    | none => exact w
    | some m => exact h (x, m) (mlk_mem q)
  | .val d, w => w
  | .bin s a b, w => ⟨sub_wf h a w.1, sub_wf h b w.2⟩
  | .pick c a b, w => ⟨sub_wf h c w.1, sub_wf h a w.2.1, sub_wf h b w.2.2⟩
  | .not a, w => sub_wf h a w
  | .null a, w => sub_wf h a w
  | .len a, w => sub_wf h a w
theorem sub_hgt {M : Mp} (h : ∀ p ∈ M, hgt p.2 ≤ 3) : ∀ e, hgt (subE M e) ≤ hgt e + 2
  | .col x => by
    unfold subE
    cases q : mlk M x with
    | none => exact Nat.le_add_right _ _
    | some m => exact h (x, m) (mlk_mem q)
  | .val d => Nat.le_add_right _ _
  | .bin s a b => by
    have h1 := sub_hgt h a
    have h2 := sub_hgt h b
    simp only [subE, hgt]
    omega
  | .pick c a b => by
    have h0 := sub_hgt h c
    have h1 := sub_hgt h a
    have h2 := sub_hgt h b
    simp only [subE, hgt]
    omega
  | .not a => by
    have h1 := sub_hgt h a
    simp only [subE, hgt]
    omega
  | .null a => by
    have h1 := sub_hgt h a
    simp only [subE, hgt]
    omega
  | .len a => by
    have h1 := sub_hgt h a
    simp only [subE, hgt]
    omega
/-- what is put in has the columns' types -/
def Suits (ps : List (Str × Str)) (M : Mp) : Prop := ∀ x k m, lookK ps x = some k → mlk M x = some m → ty ps m = .inl (some k)
theorem sub_ty {ps : List (Str × Str)} {M : Mp} (h : Suits ps M) (hin : ∀ p ∈ M, (lookK ps p.1).isSome = true) : ∀ e, ty ps (subE M e) = ty ps e
  | .col x => by
    unfold subE
    cases q : mlk M x with
    | none => rfl
    | some m =>
      obtain ⟨k, hk⟩ := Option.isSome_iff_exists.mp (hin (x, m) (mlk_mem q))
      have := h x k m hk q
      show ty ps m = _
      rw [this]
      unfold ty
      rw [hk]
  | .val d => rfl
  | .bin s a b => by rw [subE, ty, sub_ty h hin a, sub_ty h hin b, ty]
  | .pick c a b => by rw [subE, ty, sub_ty h hin c, sub_ty h hin a, sub_ty h hin b, ty]
  | .not a => by rw [subE, ty, sub_ty h hin a, ty]
  | .null a => by rw [subE, ty, sub_ty h hin a, ty]
  | .len a => by rw [subE, ty, sub_ty h hin a, ty]
theorem sub_ev {ps : List (Str × Str)} {M : Mp} {r s : List D} (hv : ∀ x k, lookK ps x = some k → ev ps r (subE M (.col x)) = (s[ixN ps x]?).getD .none) : ∀ e t, ty ps e = .inl t → ev ps r (subE M e) = ev ps s e
  | .col x, t, h => by
    unfold ty at h
    cases q : lookK ps x with
    | none => rw [q] at h; cases h
    | some k => rw [hv x k q, ev]
  | .val d, t, h => rfl
  | .bin g a b, t, h => by
    obtain ⟨ta, h1, h⟩ := bind_l h
    obtain ⟨tb, h2, h⟩ := bind_l h
    rw [subE, ev, sub_ev hv a ta h1, sub_ev hv b tb h2, ev]
  | .pick c a b, t, h => by
    obtain ⟨tc, h0, h⟩ := bind_l h
    obtain ⟨ta, h1, h⟩ := bind_l h
    obtain ⟨tb, h2, h⟩ := bind_l h
    rw [subE, ev, sub_ev hv c tc h0, sub_ev hv a ta h1, sub_ev hv b tb h2, ev]
  | .not a, t, h => by
    obtain ⟨ta, h1, h⟩ := bind_l h
    rw [subE, ev, sub_ev hv a ta h1, ev]
  | .null a, t, h => by
    obtain ⟨ta, h1, h⟩ := bind_l h
    rw [subE, ev, sub_ev hv a ta h1, ev]
  | .len a, t, h => by
    obtain ⟨ta, h1, h⟩ := bind_l h
    rw [subE, ev, sub_ev hv a ta h1, ev]
/-- the values of what was put in -/
def vin (ps : List (Str × Str)) (M : Mp) (r : List D) (q : (Str × Str) × D) : D := match mlk M q.1.1 with
  | some m => ev ps r m
  | none => q.2
def vals (ps : List (Str × Str)) (M : Mp) (r : List D) : List D := (ps.zip r).map (vin ps M r)
theorem look_ix2 {x : Str} : ∀ {ps : List (Str × Str)} {k : Str}, lookK ps x = some k → ps[ixN ps x]? = some (x, k)
  | [], k, h => by cases h
  | p :: ps, k, h => by
    unfold lookK at h
    unfold ixN
    split at h
    · rename_i q
      cases h
      rw [if_pos q, ← q]
      rfl
    · rename_i q
      rw [if_neg q]
      exact look_ix2 h
theorem look_of {ps : List (Str × Str)} (hn : (ps.map (·.1)).Nodup) : ∀ {p : Str × Str}, p ∈ ps → lookK ps p.1 = some p.2 := by
  induction ps with
  | nil => exact fun h => by cases h
  | cons q ps ih =>
    intro p hp
    rw [List.map_cons, List.nodup_cons] at hn
    unfold lookK
    rcases List.mem_cons.mp hp with rfl | hp
    · rw [if_pos rfl]
    · rw [if_neg fun e => hn.1 (by rw [e]; exact List.mem_map.mpr ⟨p, hp, rfl⟩)]
      exact ih hn.2 hp
theorem vals_at {ps : List (Str × Str)} {M : Mp} {r : List D} {j : Nat} {p : Str × Str} {v : D} (h1 : ps[j]? = some p) (h2 : r[j]? = some v) : (vals ps M r)[j]? = some (vin ps M r (p, v)) := by
  unfold vals
  have z : (ps.zip r)[j]? = some (p, v) := List.getElem?_zip_eq_some.mpr ⟨h1, h2⟩
  rw [List.getElem?_map, z]
  rfl
theorem vals_len {ps : List (Str × Str)} {M : Mp} {r : List D} (h : r.length = ps.length) : (vals ps M r).length = ps.length := by
  unfold vals
  rw [List.length_map, List.length_zip, h]
  exact Nat.min_self _
theorem vals_row {ps : List (Str × Str)} {ns : List Str} {M : Mp} {r : List D} (hn : (ps.map (·.1)).Nodup) (hs : Suits ps M) (hw : ∀ p ∈ M, wfE ns p.2) (hr : Row ps r) : Row ps (vals ps M r) := by
  refine ⟨vals_len hr.len, fun j p v h1 h2 => ?_⟩
  have hj : j < r.length := by rw [hr.len]; exact (List.getElem?_eq_some_iff.mp h1).1
  have h3 : r[j]? = some r[j] := List.getElem?_eq_getElem hj
  rw [vals_at h1 h3] at h2
  cases h2
  unfold vin
  cases q : mlk M p.1 with
  | none =>
    simp only [q]
    exact hr.tok j p _ h1 h3
  | some m =>
    simp only [q]
    exact ev_tok hr m _ (hw (p.1, m) (mlk_mem q)) (hs p.1 p.2 m (look_of hn (List.mem_of_getElem? h1)) q)
theorem vals_ev {ps : List (Str × Str)} {M : Mp} {r : List D} (hl : r.length = ps.length) : ∀ x k, lookK ps x = some k → ev ps r (subE M (.col x)) = ((vals ps M r)[ixN ps x]?).getD .none := by
  intro x k h
  have h1 := look_ix2 h
  have hj : ixN ps x < r.length := by rw [hl]; exact (List.getElem?_eq_some_iff.mp h1).1
  have h3 : r[ixN ps x]? = some r[ixN ps x] := List.getElem?_eq_getElem hj
  rw [vals_at h1 h3]
  unfold vin subE
  cases q : mlk M x with
  | none =>
    simp only [q]
    show (r[ixN ps x]?).getD .none = _
    rw [h3]
  | some m =>
    simp only [q]
    rfl
theorem in_bools : ∀ bs : List Bool, inT (.bool false) (.list (bs.map PyData.bool)) = some (decide (false ∈ bs)) := by
  have sh : ∀ bs : List Bool, PyData.canLayAll0 (bs.map PyData.bool) = true ∧ PyData.depthAll (bs.map PyData.bool) = 0 := by
    intro bs
    induction bs with
    | nil => exact ⟨rfl, rfl⟩
    | cons b bs ih => rw [List.map_cons]; exact ⟨by simp [PyData.canLayAll0, PyData.canLay0, ih.1], by simp [PyData.depthAll, PyData.depth, ih.2]⟩
  have an : ∀ bs : List Bool, ((bs.map PyData.bool).any fun z => PyData.eqv z (.bool false)) = decide (false ∈ bs) := by
    intro bs
    induction bs with
    | nil => rfl
    | cons b bs ih => rw [List.map_cons, List.any_cons, ih, PyData.eqv]; cases b <;> simp
  intro bs
  show (if _ then _ else _) = _
  rw [if_pos ⟨rfl, by simp [SeqAt.shaped, PyData.canLay0, PyData.depth, (sh bs).1, (sh bs).2]⟩, an]
def tyP : Ty → D
  | .inl t => .tuple [tD t, .bool true]
  | .inr _ => .tuple [.none, .bool false]
theorem tyP_eq {r : Ty} {k : Str} (h : okTy r) (hk : kd k) : eqT (tyP r) (.tuple [.str k, .bool true]) = some (decide (r = .inl (some k))) := by
  cases r with
  | inl t =>
    cases t with
    | none => rcases hk with rfl | rfl | rfl <;> decide +kernel
    | some k' =>
      have h : kd k' := h
      rcases h with rfl | rfl | rfl <;> rcases hk with rfl | rfl | rfl <;> decide +kernel
  | inr m =>
    have e : decide ((.inr m : Ty) = .inl (some k)) = false := by simp
    rw [e]
    show eqT (.tuple [.none, .bool false]) _ = _
    rcases hk with rfl | rfl | rfl <;> decide +kernel
theorem sp_typed {ps : List (Str × Str)} {ns : List Str} {e : Ex} (h : hgt e ≤ 9) (w : wfE ns e) : f__law_typed [exD e, .tuple (ps.map fdD)] = some (tyP (ty ps e)) := by
  have s := sp_type_of (ps := ps) e 9 h w
  have s : f_type_of [exD e, .tuple (ps.map fdD)] = some (tyX (ty ps e)) := s
  rw [← wo_eq]
  unfold f__law_typed
  rw [wo_runV]
  show Ws g__law_typed [some (.val (exD e)), some (.val (.tuple (ps.map fdD)))] _
  unfold g__law_typed
  cases r : ty ps e with
  | inl t =>
    rw [r, tyX_l] at s
    simp! [s]
    all_goals rfl
  | inr m =>
    rw [r, tyX_r] at s
    simp! [s]
    all_goals first | exact ⟨rfl, by decide⟩ | rfl | skip
/-- the law's own columns -/
theorem exd_ty (p : Ex) : tyOk (exD p) = true ∧ tyD (exD p) = "tuple" := by cases p <;> exact ⟨rfl, rfl⟩
theorem k_st2 : L2.kitB "str" "tuple" = some false := by decide +kernel
theorem lcols_loop {r : List D → Option D} {d : D} {S : Fl → Dn.Env → Prop} : ∀ (l : List Ex) (acc : List Str) (o2 : Option Cell), canSet (some o2) = some () →
    (∀ p ∈ l, r [exD p] = some (.list ((colsE p).map PyData.str)) ∧ (∀ x ∈ colsE p, PyData.strOk x = true) ∧ (colsE p).length ≤ 1000) → (∀ x ∈ acc, PyData.strOk x = true) → acc.length + 1000 * l.length ≤ 10000 →
    (∀ o2 : Option Cell, S .nx [some (.val d), some (.val (.list ((l.foldl (fun acc p => uni acc (colsE p)) acc).map PyData.str))), o2, none]) →
    Ws (forD (gTN 2) (sIf (gTru (gApp (isiF "tuple") (gCons (gVar 2) gNil))) (sSet 1 (gBin addD (gVar 1) (gLc [3] (gSeq (gApp r (gCons (gVar 2) gNil))) (gTN 3) (gTst (gBin ninD (gVar 3) (gVar 1))) (gVar 3)))) sNext) (l.map exD)) [some (.val d), some (.val (.list (acc.map PyData.str))), o2, none] S
  | [], acc, o2, h2, hl, ha, hb, q => by
    rw [List.map_nil]
    simp! []
    exact q o2
  | p :: l, acc, o2, h2, hl, ha, hb, q => by
    obtain ⟨e1, e2, e3⟩ := hl p List.mem_cons_self
    obtain ⟨y1, y2⟩ := exd_ty p
    rw [List.length_cons] at hb
    rw [List.map_cons, for_cons]
    simp! [h2, e1, y1, y2, List.length_map]
    refine ⟨⟨by omega, rfl⟩, ?_⟩
    refine lc_filterA PyData.str PyData.str (fun x => !decide (x ∈ acc)) (colsE p) (fun x hx => ?_) ?_
    · have ht := in_strs (x := x) (xs := acc) (e2 x hx) ha
      simp! [ht]
      by_cases c : x ∈ acc
      · simp [c]
      · simp [c]
    · have hf := List.length_filter_le (fun x => !decide (x ∈ acc)) (colsE p)
      simp! [backE, List.length_map]
      rw [if_pos (by omega)]
      rw [← List.map_append]
      refine lcols_loop l (uni acc (colsE p)) _ rfl (fun p' hp' => hl p' (List.mem_cons_of_mem _ hp')) (fun x hx => (mem_uni.mp hx).elim (ha x) (e2 x)) (by have := uni_len acc (colsE p); omega) ?_
      exact fun o2 => q o2
end Lw
set_option maxHeartbeats 4000000
namespace Lw
open PySem Dn Dm DnSo
local macro_rules | `(tactic| simp! [$xs,*]) => `(tactic| simp (maxSteps := 4000000) only [backE, wipeE, wo_some, wo_none, wm_c, wm_var, wm_frz, wm_bin, wm_un, wm_tst, wm_tru, wm_truB, wm_chain, wm_and, wm_or, wm_not, wm_andV, wm_orV, wm_notV, wm_ifE, wm_nil, wm_cons, wm_app, wm_noP, wm_part, wm_sl, wm_pk, wm_io, wm_ix, wm_inB, wm_true, wm_seq, wm_rng1, wm_rng2,
    then_nx, then_ret, then_rof, then_brk, then_cnt, ws_next, ws_brk, ws_cnt, ws_seq, ws_if, ws_ret, ws_rof, ws_drop, ws_set, ws_own, ws_asg, wo_TN, wo_TNil, wo_TCons, wo_TTup, ws_ap, ws_setIx, ws_for, for_nil, turn_nx, turn_cnt, turn_brk, turn_ret, turn_rof, wm_lc, end_ret, end_nx, end_rof, end_io, ownOf_own, valOf_val, frz_val, frz_own, frz_ownD, ixO_l, ixO_d, cOwn_own, peek_val, peek_own, peek_ownD, by_val, by_own, canSet_none, canSet_val, canSet_own, lstOf_list,
    List.getElem?_cons_zero, List.getElem?_cons_succ, List.set_cons_zero, List.set_cons_succ, List.length_cons, List.length_nil, wo_ite, wo_bind, ↓reduceIte, and_true, true_and, and_self, Bool.false_eq_true, Bool.not_true, Bool.not_false, decide_eq_true_eq, decide_true, decide_false, oneInt_int, twoInts_int,
    add_ii, add_ll, add_tt, add_ss, sub_ii, mul_ii, mulS_ii, mod_ii, fdiv_ii, neg_i, le_ii, gt_ii, ge_ii, eqT_ii, eqT_ss, eqT_bb, eqT_nn, ltT_ii, ltT_ss, wo_eqD, wo_neD, wo_ltD, wo_inD, wo_ninD, is_n, isnt_n, is_bb, isnt_bb, isN, bOf_b, iOf_i, tru_b, tru_n, tru_i, tru_l, tru_t, seq_l, seq_t, tup_l, tup_t, lst_l, lst_t, len_l, len_t, int_i, int_b, abs_i, max_ii, min_ii, ix_li, ix_ti, cut_l, cut_t, flat_i, flat_b, flat_s, ix0, ix1, ix2, mkTup, mkLst,
    add2_ll, ws_par3, three_c, ws_grp, empty_own, lOwnD_own, wm_lcW, wm_getD, wm_ind, ix3, ix4, ix_m2, ix_m1, ix_p2, ix_p1, wm_newD, ws_setK, wm_get, wm_ixK, wm_sortN, ws_ext, dOwn_own, lOwn_own, lsD_list, step_nx, step_cnt, step_brk, step_ret, step_rof, wm_reve, rev_l, rev_t, wm_opBL, repr_l, sort_l, sum_l, wm_enum, enum_l, enum_t, enumL_nil, wm_dic, wm_kvn, wm_kvc, seq_s, mulT_si, len_s, ord_c, str_i, ty_d, k_lb, k_li, k_ls, k_tb, k_ti, k_ts, k_db, k_di, k_ds, k_lt, k_tl,
    isi_1, tyOk_n, tyOk_b, tyOk_i, tyOk_s, tyOk_l, tyOk_t, ty_n, ty_b, ty_i, ty_s, ty_l, ty_t, k_nb, k_bb, k_ib, k_sb, k_ni, k_bi, k_ii, k_si, k_ns, k_bs, k_is, k_ss, k_ll, k_tt,
    Int.reduceNeg, Int.reducePow, Int.reduceLT, Int.reduceLE, Int.reduceAdd, Int.reduceSub, Int.reduceMul, Int.reduceToNat, Nat.reduceAdd, Nat.reduceLeDiff, Nat.reduceEqDiff, Int.reduceEq, reduceCtorEq, ws_grpL, empty_ownL, wo_TLst, wg_P, wg_end, wg_then, theng_nx, wg_yield, wm_callG, wo_runG, List.nil_append, wx_okD, wx_okL, wx_okB, wx_okS, wx_cons, wx_call, wx_app, wx_bin, wx_tst, wx_not, wx_ite, thenx_nx, thenx_ret, thenx_rof, thenx_brk, thenx_cnt, wx_seq, wx_if, wx_ret, wx_drop, wx_set, wx_apd, ownL_own, wx_raise, strOf_s, wx_for, ws_noX, wx_tryA, wx_try, retq_ret, either_l, either_r, endq_nx, endq_ret, hL_hd, gL_hd, wo_runX, wx_own, wl_nil, wl_cons, wx_lc, wm_keys, wm_callIOF, $xs,*])
theorem sp_lcols {ns : List Str} (hns : ∀ x ∈ ns, PyData.strOk x = true) : ∀ (n : Nat) (e : Ex), hgt e ≤ n → hgt e ≤ 6 → wfE ns e → fuel__law_columns n [exD e] = some (.list ((colsE e).map PyData.str))
  | 0, e, h, _, _ => by have := hgt_pos e; omega
  | n + 1, e, h, h6, w => by
    rw [← wo_eq]
    show Wo (runV 4 (g__law_columns (fuel__law_columns n)) [exD e]) _
    rw [wo_runV]
    show Ws (g__law_columns (fuel__law_columns n)) [some (.val (exD e)), none, none, none] _
    unfold g__law_columns
    have one : ∀ p, hgt p + 1 ≤ hgt e → wfE ns p → fuel__law_columns n [exD p] = some (.list ((colsE p).map PyData.str)) ∧ (∀ x ∈ colsE p, PyData.strOk x = true) ∧ (colsE p).length ≤ 1000 := fun p z1 z2 => by
      refine ⟨sp_lcols hns n p (by omega) (by omega) z2, fun x hx => hns x (cols_in p z2 x hx), ?_⟩
      have := cols_len p
      have : 3 ^ hgt p ≤ 3 ^ 6 := Nat.pow_le_pow_right (by decide) (by omega)
      omega
    have fin : ∀ (l : List Ex) (o2 : Option Cell) (S : Fl → Dn.Env → Prop), canSet (some o2) = some () → l.length ≤ 3 → (∀ p ∈ l, hgt p + 1 ≤ hgt e ∧ wfE ns p) → (∀ o2 : Option Cell, S .nx [some (.val (exD e)), some (.val (.list ((l.foldl (fun acc p => uni acc (colsE p)) []).map PyData.str))), o2, none]) →
        Ws (forD (gTN 2) (sIf (gTru (gApp (isiF "tuple") (gCons (gVar 2) gNil))) (sSet 1 (gBin addD (gVar 1) (gLc [3] (gSeq (gApp (fuel__law_columns n) (gCons (gVar 2) gNil))) (gTN 3) (gTst (gBin ninD (gVar 3) (gVar 1))) (gVar 3)))) sNext) (l.map exD)) [some (.val (exD e)), some (.val (.list [])), o2, none] S := fun l o2 S h2 hl hp q =>
      lcols_loop l [] o2 h2 (fun p hp' => one p (hp p hp').1 (hp p hp').2) (fun x hx => by cases hx) (by simp only [List.length_nil]; omega) q
    cases e with
    | col x =>
      simp! [exD, str_iff, String.reduceEq]
      all_goals rfl
    | val d =>
      simp! [exD, str_iff, String.reduceEq]
      all_goals rfl
    | bin s a b =>
      simp only [exD] at fin
      simp! [exD, str_iff, String.reduceEq, cut1]
      rw [for_cons]
      simp! [k_st2]
      refine fin [a, b] (some (.val (.str (sgS s)))) _ rfl (by simp) (fun p hp => ?_) fun o2 => ?_
      · simp only [List.mem_cons, List.not_mem_nil, or_false] at hp
        simp only [hgt]
        rcases hp with rfl | rfl
        · exact ⟨by omega, w.1⟩
        · exact ⟨by omega, w.2⟩
      · simp! []
        rfl
    | pick c a b =>
      simp only [exD] at fin
      simp! [exD, str_iff, String.reduceEq, cut1]
      refine fin [c, a, b] _ _ rfl (by simp) (fun p hp => ?_) fun o2 => ?_
      · simp only [List.mem_cons, List.not_mem_nil, or_false] at hp
        simp only [hgt]
        rcases hp with rfl | rfl | rfl
        · exact ⟨by omega, w.1⟩
        · exact ⟨by omega, w.2.1⟩
        · exact ⟨by omega, w.2.2⟩
      · simp! []
        rfl
    | not a =>
      simp only [exD] at fin
      simp! [exD, str_iff, String.reduceEq, cut1]
      refine fin [a] _ _ rfl (by simp) (fun p hp => ?_) fun o2 => ?_
      · rw [List.mem_singleton.mp hp]
        exact ⟨Nat.le_refl _, w⟩
      · simp! []
        rfl
    | null a =>
      simp only [exD] at fin
      simp! [exD, str_iff, String.reduceEq, cut1]
      refine fin [a] _ _ rfl (by simp) (fun p hp => ?_) fun o2 => ?_
      · rw [List.mem_singleton.mp hp]
        exact ⟨Nat.le_refl _, w⟩
      · simp! []
        rfl
    | len a =>
      simp only [exD] at fin
      simp! [exD, str_iff, String.reduceEq, cut1]
      refine fin [a] _ _ rfl (by simp) (fun p hp => ?_) fun o2 => ?_
      · rw [List.mem_singleton.mp hp]
        exact ⟨Nat.le_refl _, w⟩
      · simp! []
        rfl
theorem sg_sm (s : Sg) : smD (.str (sgS s)) = true := by cases s <;> decide +kernel
theorem wd_sm : ∀ w ∈ (["column", "value", "binary", "pick", "not", "null", "length"] : List Str), smD (.str w) = true := by decide +kernel
theorem val_at {d : D} (h : gv d) : nodes d = 1 ∧ d.depth = 0 := by
  rcases gv_cases h with rfl | ⟨b, rfl⟩ | ⟨i, rfl⟩ | ⟨s, rfl⟩ <;> exact ⟨rfl, rfl⟩
theorem ex_sm {ns : List Str} (hns : ∀ x ∈ ns, smD (.str x) = true) : ∀ e, wfE ns e → smD (exD e) = true ∧ nodes (exD e) ≤ 12 * 4 ^ hgt e ∧ (exD e).depth ≤ hgt e
  | .col x, w => by
    have h1 := wd_sm "column" (by simp)
    have h2 := hns x w.1
    refine ⟨by simp [exD, smD, smL] at h1 h2 ⊢; simp [h1, h2], by simp [exD, nodes, nodesL, hgt], by simp [exD, PyData.depth, PyData.depthAll, hgt]⟩
  | .val d, w => by
    have h1 := wd_sm "value" (by simp)
    have h2 := sm_of w.1 w.2
    obtain ⟨h3, h4⟩ := val_at w.1
    refine ⟨?_, by simp [exD, nodes, nodesL, hgt, h3], by simp [exD, PyData.depth, PyData.depthAll, hgt, h4]⟩
    simp only [exD, smD, smL, Bool.and_true, Bool.and_eq_true] at h1 ⊢
    exact ⟨h1, h2⟩
  | .bin s a b, w => by
    have h1 := wd_sm "binary" (by simp)
    have h2 := sg_sm s
    obtain ⟨a1, a2, a3⟩ := ex_sm hns a w.1
    obtain ⟨b1, b2, b3⟩ := ex_sm hns b w.2
    have p1 : 4 ^ hgt a ≤ 4 ^ max (hgt a) (hgt b) := Nat.pow_le_pow_right (by decide) (by omega)
    have p2 : 4 ^ hgt b ≤ 4 ^ max (hgt a) (hgt b) := Nat.pow_le_pow_right (by decide) (by omega)
    have p3 : 1 ≤ 4 ^ max (hgt a) (hgt b) := Nat.pow_pos (by decide)
    refine ⟨?_, ?_, ?_⟩
    · rw [exD, smD, smL, h1, smL, h2, smL, a1, smL, b1]; rfl
    · simp only [exD, nodes, nodesL, hgt, Nat.pow_succ]; omega
    · simp only [exD, PyData.depth, PyData.depthAll, hgt]; omega
  | .pick c a b, w => by
    have h1 := wd_sm "pick" (by simp)
    obtain ⟨c1, c2, c3⟩ := ex_sm hns c w.1
    obtain ⟨a1, a2, a3⟩ := ex_sm hns a w.2.1
    obtain ⟨b1, b2, b3⟩ := ex_sm hns b w.2.2
    have p0 : 4 ^ hgt c ≤ 4 ^ max (hgt c) (max (hgt a) (hgt b)) := Nat.pow_le_pow_right (by decide) (by omega)
    have p1 : 4 ^ hgt a ≤ 4 ^ max (hgt c) (max (hgt a) (hgt b)) := Nat.pow_le_pow_right (by decide) (by omega)
    have p2 : 4 ^ hgt b ≤ 4 ^ max (hgt c) (max (hgt a) (hgt b)) := Nat.pow_le_pow_right (by decide) (by omega)
    have p3 : 1 ≤ 4 ^ max (hgt c) (max (hgt a) (hgt b)) := Nat.pow_pos (by decide)
    refine ⟨?_, ?_, ?_⟩
    · rw [exD, smD, smL, h1, smL, c1, smL, a1, smL, b1]; rfl
    · simp only [exD, nodes, nodesL, hgt, Nat.pow_succ]; omega
    · simp only [exD, PyData.depth, PyData.depthAll, hgt]; omega
  | .not a, w => by
    have h1 := wd_sm "not" (by simp)
    obtain ⟨a1, a2, a3⟩ := ex_sm hns a w
    have p3 : 1 ≤ 4 ^ hgt a := Nat.pow_pos (by decide)
    refine ⟨?_, ?_, ?_⟩
    · rw [exD, smD, smL, h1, smL, a1]; rfl
    · simp only [exD, nodes, nodesL, hgt, Nat.pow_succ]; omega
    · simp only [exD, PyData.depth, PyData.depthAll, hgt]; omega
  | .null a, w => by
    have h1 := wd_sm "null" (by simp)
    obtain ⟨a1, a2, a3⟩ := ex_sm hns a w
    have p3 : 1 ≤ 4 ^ hgt a := Nat.pow_pos (by decide)
    refine ⟨?_, ?_, ?_⟩
    · rw [exD, smD, smL, h1, smL, a1]; rfl
    · simp only [exD, nodes, nodesL, hgt, Nat.pow_succ]; omega
    · simp only [exD, PyData.depth, PyData.depthAll, hgt]; omega
  | .len a, w => by
    have h1 := wd_sm "length" (by simp)
    obtain ⟨a1, a2, a3⟩ := ex_sm hns a w
    have p3 : 1 ≤ 4 ^ hgt a := Nat.pow_pos (by decide)
    refine ⟨?_, ?_, ?_⟩
    · rw [exD, smD, smL, h1, smL, a1]; rfl
    · simp only [exD, nodes, nodesL, hgt, Nat.pow_succ]; omega
    · simp only [exD, PyData.depth, PyData.depthAll, hgt]; omega
mutual
theorem unE_sm : ∀ d : D, smD d = true → unE d = d ∧ noN d = true
  | .none, _ => ⟨rfl, rfl⟩
  | .bool _, _ => ⟨rfl, rfl⟩
  | .int _, _ => ⟨rfl, rfl⟩
  | .str _, _ => ⟨rfl, rfl⟩
  | .list xs, h => by
    obtain ⟨h1, h2⟩ := unE_smL xs (by simpa [smD] using h)
    exact ⟨by rw [unE, h1], by rw [noN, h2]⟩
  | .tuple xs, h => by
    obtain ⟨h1, h2⟩ := unE_smL xs (by simpa [smD] using h)
    exact ⟨by rw [unE, h1], by rw [noN, h2]⟩
  | .dict _, h => by simp [smD] at h
theorem unE_smL : ∀ ds : List D, smL ds = true → unAll ds = ds ∧ noNAll ds = true
  | [], _ => ⟨rfl, rfl⟩
  | d :: ds, h => by
    simp only [smL, Bool.and_eq_true] at h
    obtain ⟨h1, h2⟩ := unE_sm d h.1
    obtain ⟨h3, h4⟩ := unE_smL ds h.2
    exact ⟨by rw [unAll, h1, h3], by rw [noNAll, h2, h4]; rfl⟩
end
/-- the entries of what is put in -/
theorem mp_sm {ns : List Str} (hns : ∀ x ∈ ns, smD (.str x) = true) : ∀ M : Mp, (∀ p ∈ M, p.1 ∈ ns ∧ wfE ns p.2 ∧ hgt p.2 ≤ 3) →
    unKV (mpD M) = mpD M ∧ noNKV (mpD M) = true ∧ PyData.showableKv (mpD M) = true ∧ PyData.leavesShortKv 13 (mpD M) = true ∧ PyData.weightKv (mpD M) ≤ 80000 * M.length ∧ PyData.depthKv (mpD M) ≤ 3
  | [], _ => ⟨rfl, rfl, rfl, rfl, Nat.le_refl _, by decide⟩
  | p :: M, h => by
    obtain ⟨i1, i2, i3, i4, i5, i6⟩ := mp_sm hns M fun q hq => h q (List.mem_cons_of_mem _ hq)
    obtain ⟨hx, hw, hh⟩ := h p List.mem_cons_self
    obtain ⟨e1, e2, e3⟩ := ex_sm hns p.2 hw
    obtain ⟨u1, u2⟩ := unE_sm _ e1
    obtain ⟨_, s2, s3, s4⟩ := sm_ok _ e1
    obtain ⟨_, k2, k3, k4⟩ := sm_ok _ (hns p.1 hx)
    have kn : nodes (.str p.1) = 1 := rfl
    have kd0 : (PyData.str p.1).depth = 0 := rfl
    have hp : 4 ^ hgt p.2 ≤ 4 ^ 3 := Nat.pow_le_pow_right (by decide) hh
    have ee : mpD (p :: M) = (.str p.1, exD p.2) :: mpD M := rfl
    rw [ee]
    refine ⟨by rw [unKV, u1, i1], by rw [noNKV, u2, i2]; rfl, by rw [PyData.showableKv, k2, s2, i3]; rfl, by rw [PyData.leavesShortKv, k3, s3, i4]; rfl, ?_, ?_⟩
    · rw [PyData.weightKv, List.length_cons]
      omega
    · rw [PyData.depthKv]
      omega
theorem un_frz (M : Mp) (h : unKV (mpD M) = mpD M) : unE (frzT (mpD M)) = .dict (mpD M) := by
  cases M with
  | nil => rfl
  | cons p M =>
    show unE (.dict (mpD (p :: M))) = _
    have ee : mpD (p :: M) = (.str p.1, exD p.2) :: mpD M := rfl
    rw [ee] at h ⊢
    unfold unE
    rw [h]
theorem no_frz (M : Mp) (h : noNKV (mpD M) = true) : noN (frzT (mpD M)) = true := by
  cases M with
  | nil => rfl
  | cons p M =>
    show noN (.dict (mpD (p :: M))) = true
    rw [noN, dk_mp, h]
    rfl
theorem repr_two {ns : List Str} (hns : ∀ x ∈ ns, smD (.str x) = true) {e : Ex} {M : Mp} (hw : wfE ns e) (hh : hgt e ≤ 4) (hM : ∀ p ∈ M, p.1 ∈ ns ∧ wfE ns p.2 ∧ hgt p.2 ≤ 3) (hl : M.length ≤ 4) : ∃ s : Str, reprFU [.list [exD e, frzT (mpD M)]] = some (.str s) := by
  obtain ⟨e1, e2, e3⟩ := ex_sm hns e hw
  obtain ⟨u1, u2⟩ := unE_sm _ e1
  obtain ⟨_, s2, s3, s4⟩ := sm_ok _ e1
  obtain ⟨i1, i2, i3, i4, i5, i6⟩ := mp_sm hns M hM
  have hp : 4 ^ hgt e ≤ 4 ^ 4 := Nat.pow_le_pow_right (by decide) hh
  have uu : unE (.list [exD e, frzT (mpD M)]) = .list [exD e, .dict (mpD M)] := by
    rw [unE, unAll, unAll, unAll, u1, un_frz M i1]
  have ok : reprOkU (.list [exD e, frzT (mpD M)]) = true := by
    unfold reprOkU
    rw [uu]
    simp only [Bool.and_eq_true, decide_eq_true_eq]
    refine ⟨⟨⟨⟨?_, ?_⟩, ?_⟩, ?_⟩, ?_⟩
    · rw [noN, noNAll, u2, noNAll, no_frz M i2, noNAll]; rfl
    · simp only [PyData.depth, PyData.depthAll]; omega
    · rw [PyData.showable, PyData.showableAll, s2, PyData.showableAll, PyData.showable, i3, PyData.showableAll]; rfl
    · rw [PyData.leavesShort, PyData.leavesShortAll, s3, PyData.leavesShortAll, PyData.leavesShort, i4, PyData.leavesShortAll]; rfl
    · simp only [PyData.weight, PyData.weightAll]; omega
  exact ⟨_, if_pos ok⟩
end Lw
set_option maxHeartbeats 4000000
namespace Lw
open PySem Dn Dm DnSo
local macro_rules | `(tactic| simp! [$xs,*]) => `(tactic| simp (maxSteps := 4000000) only [backE, wipeE, wo_some, wo_none, wm_c, wm_var, wm_frz, wm_bin, wm_un, wm_tst, wm_tru, wm_truB, wm_chain, wm_and, wm_or, wm_not, wm_andV, wm_orV, wm_notV, wm_ifE, wm_nil, wm_cons, wm_app, wm_noP, wm_part, wm_sl, wm_pk, wm_io, wm_ix, wm_inB, wm_true, wm_seq, wm_rng1, wm_rng2,
    then_nx, then_ret, then_rof, then_brk, then_cnt, ws_next, ws_brk, ws_cnt, ws_seq, ws_if, ws_ret, ws_rof, ws_drop, ws_set, ws_own, ws_asg, wo_TN, wo_TNil, wo_TCons, wo_TTup, ws_ap, ws_setIx, ws_for, for_nil, turn_nx, turn_cnt, turn_brk, turn_ret, turn_rof, wm_lc, end_ret, end_nx, end_rof, end_io, ownOf_own, valOf_val, frz_val, frz_own, frz_ownD, ixO_l, ixO_d, cOwn_own, peek_val, peek_own, peek_ownD, by_val, by_own, canSet_none, canSet_val, canSet_own, lstOf_list,
    List.getElem?_cons_zero, List.getElem?_cons_succ, List.set_cons_zero, List.set_cons_succ, List.length_cons, List.length_nil, wo_ite, wo_bind, ↓reduceIte, and_true, true_and, and_self, Bool.false_eq_true, Bool.not_true, Bool.not_false, decide_eq_true_eq, decide_true, decide_false, oneInt_int, twoInts_int,
    add_ii, add_ll, add_tt, add_ss, sub_ii, mul_ii, mulS_ii, mod_ii, fdiv_ii, neg_i, le_ii, gt_ii, ge_ii, eqT_ii, eqT_ss, eqT_bb, eqT_nn, ltT_ii, ltT_ss, wo_eqD, wo_neD, wo_ltD, wo_inD, wo_ninD, is_n, isnt_n, is_bb, isnt_bb, isN, bOf_b, iOf_i, tru_b, tru_n, tru_i, tru_l, tru_t, seq_l, seq_t, tup_l, tup_t, lst_l, lst_t, len_l, len_t, int_i, int_b, abs_i, max_ii, min_ii, ix_li, ix_ti, cut_l, cut_t, flat_i, flat_b, flat_s, ix0, ix1, ix2, mkTup, mkLst,
    add2_ll, ws_par3, three_c, ws_grp, empty_own, lOwnD_own, wm_lcW, wm_getD, wm_ind, ix3, ix4, ix_m2, ix_m1, ix_p2, ix_p1, wm_newD, ws_setK, wm_get, wm_ixK, wm_sortN, ws_ext, dOwn_own, lOwn_own, lsD_list, step_nx, step_cnt, step_brk, step_ret, step_rof, wm_reve, rev_l, rev_t, wm_opBL, repr_l, sort_l, sum_l, wm_enum, enum_l, enum_t, enumL_nil, wm_dic, wm_kvn, wm_kvc, seq_s, mulT_si, len_s, ord_c, str_i, ty_d, k_lb, k_li, k_ls, k_tb, k_ti, k_ts, k_db, k_di, k_ds, k_lt, k_tl,
    isi_1, tyOk_n, tyOk_b, tyOk_i, tyOk_s, tyOk_l, tyOk_t, ty_n, ty_b, ty_i, ty_s, ty_l, ty_t, k_nb, k_bb, k_ib, k_sb, k_ni, k_bi, k_ii, k_si, k_ns, k_bs, k_is, k_ss, k_ll, k_tt,
    Int.reduceNeg, Int.reducePow, Int.reduceLT, Int.reduceLE, Int.reduceAdd, Int.reduceSub, Int.reduceMul, Int.reduceToNat, Nat.reduceAdd, Nat.reduceLeDiff, Nat.reduceEqDiff, Int.reduceEq, reduceCtorEq, ws_grpL, empty_ownL, wo_TLst, wg_P, wg_end, wg_then, theng_nx, wg_yield, wm_callG, wo_runG, List.nil_append, wx_okD, wx_okL, wx_okB, wx_okS, wx_cons, wx_call, wx_app, wx_bin, wx_tst, wx_not, wx_ite, thenx_nx, thenx_ret, thenx_rof, thenx_brk, thenx_cnt, wx_seq, wx_if, wx_ret, wx_drop, wx_set, wx_apd, ownL_own, wx_raise, strOf_s, wx_for, ws_noX, wx_tryA, wx_try, retq_ret, either_l, either_r, endq_nx, endq_ret, hL_hd, gL_hd, wo_runX, wx_own, wl_nil, wl_cons, wx_lc, wm_keys, wm_callIOF, $xs,*])
def NO (o : Option Cell) : Prop := o = none ∨ ∃ d, o = some (.val d)
theorem NO.cs {o : Option Cell} (h : NO o) : canSet (some o) = some () := by
  rcases h with rfl | ⟨d, rfl⟩ <;> rfl
def frzE (i : Nat) (ρ : Dn.Env) : Option (Option Cell) → Option (D × Dn.Env)
  | some (some (.val d)) => some (d, ρ)
  | some (some (.own false (.tuple [.dict es]))) => some (frzT es, ρ.set i (some (.val (frzT es))))
  | _ => none
theorem wm_fT {i : Nat} {ρ : Dn.Env} {Q : D → Dn.Env → Prop} : Wm (gFrzT i) ρ Q ↔ Wo (frzE i ρ ρ[i]?) fun p => Q p.1 p.2 := Iff.rfl
theorem fT_val {i : Nat} {ρ : Dn.Env} {d : D} : frzE i ρ (some (some (.val d))) = some (d, ρ) := rfl
theorem fT_own {i : Nat} {ρ : Dn.Env} {es : List (D × D)} : frzE i ρ (some (some (.own false (.tuple [.dict es])))) = some (frzT es, ρ.set i (some (.val (frzT es)))) := rfl
theorem ws_newT {i : Nat} {ρ : Dn.Env} {R : Fl → Dn.Env → Prop} : Ws (sNewT i) ρ R ↔ Wo (canSet ρ[i]?) fun _ => R .nx (ρ.set i (some (.own false (.tuple [.dict []])))) := by
  unfold Ws sNewT
  simp only [wo_bind, wo_some, setC_eq]
theorem setT_at {i : Nat} {gv gk : Md D} {ρ : Dn.Env} {R : Fl → Dn.Env → Prop} {v k : D} {ρ1 ρ2 : Dn.Env} {es : List (D × D)} (e1 : gv ρ = some (v, ρ1)) (o1 : ∃ b d, ρ1[i]? = some (some (.own b d))) (e2 : gk ρ1 = some (k, ρ2)) (o2 : ρ2[i]? = some (some (.own false (.tuple [.dict es])))) (hk : isKey k = true) (hl : es.length < 16777216) (q : R .nx (ρ2.set i (some (.own false (.tuple [.dict (putU es k v)]))))) : Ws (sSetT i gv gk) ρ R := by
  obtain ⟨b, d, o1⟩ := o1
  refine ⟨(.nx, ρ2.set i (some (.own false (.tuple [.dict (putU es k v)])))), ?_, q⟩
  unfold sSetT
  rw [e1]
  show (match ρ1[i]? with | some (some (.own _ _)) => (gk ρ1).bind _ | _ => none) = _
  rw [o1]
  show (gk ρ1).bind _ = _
  rw [e2]
  show (match ρ2[i]? with | some (some (.own b (.tuple [.dict es]))) => _ | _ => none) = _
  rw [o2]
  exact if_pos ⟨hk, hl⟩
theorem setT_w {i : Nat} {gv gk : Md D} {ρ : Dn.Env} {R : Fl → Dn.Env → Prop} (h : Wm gv ρ fun v ρ1 => (∃ b d, ρ1[i]? = some (some (.own b d))) ∧ Wm gk ρ1 fun k ρ2 => ∃ es, ρ2[i]? = some (some (.own false (.tuple [.dict es]))) ∧ isKey k = true ∧ es.length < 16777216 ∧ R .nx (ρ2.set i (some (.own false (.tuple [.dict (putU es k v)]))))) : Ws (sSetT i gv gk) ρ R := by
  obtain ⟨⟨v, ρ1⟩, e1, o1, ⟨k, ρ2⟩, e2, es, o2, hk, hl, q⟩ := h
  exact setT_at e1 o1 e2 o2 hk hl q
theorem strs_eqv : ∀ (xs ys : List Str), PyData.eqvAll (xs.map PyData.str) (ys.map PyData.str) = decide (xs = ys)
  | [], [] => rfl
  | [], _ :: _ => rfl
  | _ :: _, [] => rfl
  | x :: xs, y :: ys => by
    rw [List.map_cons, List.map_cons, PyData.eqvAll, strs_eqv xs ys, PyData.eqv]
    by_cases h : x = y <;> by_cases h2 : xs = ys <;> simp [h, h2]
theorem eqT_strs {xs ys : List Str} (h1 : ∀ x ∈ xs, PyData.strOk x = true) (h2 : ∀ x ∈ ys, PyData.strOk x = true) : eqT (.list (xs.map PyData.str)) (.list (ys.map PyData.str)) = some (decide (xs = ys)) := by
  show (if _ then _ else _) = _
  rw [if_pos ⟨strs_shaped h1, strs_shaped h2⟩, PyData.eqv, strs_eqv]
mutual
theorem eqv_self : ∀ d : D, smD d = true → PyData.eqv d d = true
  | .none, _ => by simp [PyData.eqv]
  | .bool _, _ => by simp [PyData.eqv]
  | .int _, _ => by simp [PyData.eqv]
  | .str _, _ => by simp [PyData.eqv]
  | .list xs, h => by rw [PyData.eqv]; exact eqv_selfL xs (by simpa [smD] using h)
  | .tuple xs, h => by rw [PyData.eqv]; exact eqv_selfL xs (by simpa [smD] using h)
  | .dict _, h => by simp [smD] at h
theorem eqv_selfL : ∀ ds : List D, smL ds = true → PyData.eqvAll ds ds = true
  | [], _ => rfl
  | d :: ds, h => by
    simp only [smL, Bool.and_eq_true] at h
    rw [PyData.eqvAll, eqv_self d h.1, eqv_selfL ds h.2]
    rfl
end
theorem ex_self {ns : List Str} (hns : ∀ x ∈ ns, smD (.str x) = true) {e : Ex} (hw : wfE ns e) (hh : hgt e ≤ 4) : eqT (exD e) (exD e) = some true := by
  obtain ⟨e1, e2, e3⟩ := ex_sm hns e hw
  obtain ⟨s1, _⟩ := sm_ok _ e1
  have sh : SeqAt.shaped (exD e) = true := by
    unfold SeqAt.shaped
    rw [s1]
    simp
    omega
  have ev := eqv_self _ e1
  generalize exD e = d at sh ev
  cases d <;> first | (show (if _ then _ else _) = _; rw [if_pos ⟨sh, sh⟩, ev]) | simp_all [eqT, PyData.eqv]
theorem row_of {ps : List (Str × Str)} {vs : List D} (hk : ∀ p ∈ ps, kd p.2) (hf : fitsB vs ps = true) (hg : ∀ v ∈ vs, gv v) (hv : ∀ v ∈ vs, isV v = true) : Row ps vs := by
  refine ⟨fits_len hf, fun j p v h1 h2 => ?_⟩
  have ht := fits_get hf h2 h1
  have g := hg v (List.mem_of_getElem? h2)
  have iv := hv v (List.mem_of_getElem? h2)
  have k := hk p (List.mem_of_getElem? h1)
  have to := tyO_tok g iv
  rcases gv_cases g with rfl | ⟨b, rfl⟩ | ⟨i, rfl⟩ | ⟨s, rfl⟩
  · exact .non _
  · have e : p.2 = "flag" := of_decide_eq_true ht
    rw [e]
    exact to
  · have e : p.2 = "whole" := of_decide_eq_true ht
    rw [e]
    exact to
  · have e : p.2 = "text" := of_decide_eq_true ht
    rw [e]
    exact to
theorem nm4 : ∀ x ∈ (["a", "b", "c", "d"] : List Str), x.length ≤ 1000 ∧ PyData.strOk x = true ∧ PyData.strOk (noC x) = true ∧ smD (.str x) = true := by decide +kernel
theorem nd4 : (["a", "b", "c", "d"] : List Str).Nodup := by decide +kernel
def finB (ps : List (Str × Str)) (M : Mp) (p : Str × Str) : Bool := match mlk M p.1 with
  | some m => decide (ty ps m = .inl (some p.2))
  | none => true
theorem take_snoc {α : Type} {xs : List α} {i : Nat} {x : α} (h : xs[i]? = some x) : xs.take (i + 1) = xs.take i ++ [x] := by
  obtain ⟨hj, hx⟩ := List.getElem?_eq_some_iff.mp h
  rw [List.take_succ_eq_append_getElem hj, hx]
end Lw
set_option maxHeartbeats 4000000
namespace Lw
open PySem Dn Dm DnSo
local macro_rules | `(tactic| simp! [$xs,*]) => `(tactic| simp (maxSteps := 4000000) only [backE, wipeE, wo_some, wo_none, wm_c, wm_var, wm_frz, wm_bin, wm_un, wm_tst, wm_tru, wm_truB, wm_chain, wm_and, wm_or, wm_not, wm_andV, wm_orV, wm_notV, wm_ifE, wm_nil, wm_cons, wm_app, wm_noP, wm_part, wm_sl, wm_pk, wm_io, wm_ix, wm_inB, wm_true, wm_seq, wm_rng1, wm_rng2,
    then_nx, then_ret, then_rof, then_brk, then_cnt, ws_next, ws_brk, ws_cnt, ws_seq, ws_if, ws_ret, ws_rof, ws_drop, ws_set, ws_own, ws_asg, wo_TN, wo_TNil, wo_TCons, wo_TTup, ws_ap, ws_setIx, ws_for, for_nil, turn_nx, turn_cnt, turn_brk, turn_ret, turn_rof, wm_lc, end_ret, end_nx, end_rof, end_io, ownOf_own, valOf_val, frz_val, frz_own, frz_ownD, ixO_l, ixO_d, cOwn_own, peek_val, peek_own, peek_ownD, by_val, by_own, canSet_none, canSet_val, canSet_own, lstOf_list,
    List.getElem?_cons_zero, List.getElem?_cons_succ, List.set_cons_zero, List.set_cons_succ, List.length_cons, List.length_nil, wo_ite, wo_bind, ↓reduceIte, and_true, true_and, and_self, Bool.false_eq_true, Bool.not_true, Bool.not_false, decide_eq_true_eq, decide_true, decide_false, oneInt_int, twoInts_int,
    add_ii, add_ll, add_tt, add_ss, sub_ii, mul_ii, mulS_ii, mod_ii, fdiv_ii, neg_i, le_ii, gt_ii, ge_ii, eqT_ii, eqT_ss, eqT_bb, eqT_nn, ltT_ii, ltT_ss, wo_eqD, wo_neD, wo_ltD, wo_inD, wo_ninD, is_n, isnt_n, is_bb, isnt_bb, isN, bOf_b, iOf_i, tru_b, tru_n, tru_i, tru_l, tru_t, seq_l, seq_t, tup_l, tup_t, lst_l, lst_t, len_l, len_t, int_i, int_b, abs_i, max_ii, min_ii, ix_li, ix_ti, cut_l, cut_t, flat_i, flat_b, flat_s, ix0, ix1, ix2, mkTup, mkLst,
    add2_ll, ws_par3, three_c, ws_grp, empty_own, lOwnD_own, wm_lcW, wm_getD, wm_ind, ix3, ix4, ix_m2, ix_m1, ix_p2, ix_p1, wm_newD, ws_setK, wm_get, wm_ixK, wm_sortN, ws_ext, dOwn_own, lOwn_own, lsD_list, step_nx, step_cnt, step_brk, step_ret, step_rof, wm_reve, rev_l, rev_t, wm_opBL, repr_l, sort_l, sum_l, wm_enum, enum_l, enum_t, enumL_nil, wm_dic, wm_kvn, wm_kvc, seq_s, mulT_si, len_s, ord_c, str_i, ty_d, k_lb, k_li, k_ls, k_tb, k_ti, k_ts, k_db, k_di, k_ds, k_lt, k_tl,
    isi_1, tyOk_n, tyOk_b, tyOk_i, tyOk_s, tyOk_l, tyOk_t, ty_n, ty_b, ty_i, ty_s, ty_l, ty_t, k_nb, k_bb, k_ib, k_sb, k_ni, k_bi, k_ii, k_si, k_ns, k_bs, k_is, k_ss, k_ll, k_tt,
    Int.reduceNeg, Int.reducePow, Int.reduceLT, Int.reduceLE, Int.reduceAdd, Int.reduceSub, Int.reduceMul, Int.reduceToNat, Nat.reduceAdd, Nat.reduceLeDiff, Nat.reduceEqDiff, Int.reduceEq, reduceCtorEq, ws_grpL, empty_ownL, wo_TLst, wg_P, wg_end, wg_then, theng_nx, wg_yield, wm_callG, wo_runG, List.nil_append, wx_okD, wx_okL, wx_okB, wx_okS, wx_cons, wx_call, wx_app, wx_bin, wx_tst, wx_not, wx_ite, thenx_nx, thenx_ret, thenx_rof, thenx_brk, thenx_cnt, wx_seq, wx_if, wx_ret, wx_drop, wx_set, wx_apd, ownL_own, wx_raise, strOf_s, wx_for, ws_noX, wx_tryA, wx_try, retq_ret, either_l, either_r, endq_nx, endq_ret, hL_hd, gL_hd, wo_runX, wx_own, wl_nil, wl_cons, wx_lc, wm_keys, wm_callIOF, $xs,*])
theorem law_true : ∀ ns : List Int, ns.length ≤ 63 → f_law [.list (ns.map PyData.int)] = some (.bool true) := by
  intro ns hns
  rw [← wo_eq]
  unfold f_law
  rw [wo_runV]
  show Ws g_law [some (.val (.list (ns.map PyData.int))), none, none, none, none, none, none, none, none, none, none, none, none, none, none, none, none, none] _
  unfold g_law
  simp! [List.length_map]
  have hdiv : ((ns.length : Int) / 2) = ((ns.length / 2 : Nat) : Int) := by omega
  rw [hdiv]
  obtain ⟨n, hn, hn8⟩ := times (l := ns.length / 2) (m := 10) (M := 10) rfl (by decide)
  rw [hn, if_pos (small_nat (by omega)), Int.toNat_natCast, rng_map]
  refine ws_forA (fun i : Nat => PyData.int i) (fun p ρ => ∃ (o1 o2 o3 o4 o5 o6 o7 o8 o9 o10 o11 o12 o13 o14 o15 o16 o17 : Option Cell), (canSet (some o1) = some () ∧ canSet (some o2) = some () ∧ canSet (some o3) = some () ∧ canSet (some o4) = some () ∧ canSet (some o5) = some () ∧ canSet (some o6) = some () ∧ NO o7 ∧ canSet (some o8) = some () ∧ canSet (some o9) = some () ∧ canSet (some o10) = some () ∧ canSet (some o11) = some () ∧ canSet (some o12) = some () ∧ canSet (some o13) = some () ∧ canSet (some o14) = some () ∧ canSet (some o15) = some () ∧ canSet (some o16) = some () ∧ canSet (some o17) = some ()) ∧ ρ = [some (.val (.list (ns.map PyData.int))), o1, o2, o3, o4, o5, o6, o7, o8, o9, o10, o11, o12, o13, o14, o15, o16, o17]) ⟨none, none, none, none, none, none, none, none, none, none, none, none, none, none, none, none, none, ⟨rfl, rfl, rfl, rfl, rfl, rfl, .inl rfl, rfl, rfl, rfl, rfl, rfl, rfl, rfl, rfl, rfl, rfl⟩, rfl⟩ ?_ ?_
  · rintro p i r ρ e ⟨o1, o2, o3, o4, o5, o6, o7, o8, o9, o10, o11, o12, o13, o14, o15, o16, o17, ⟨h1, h2, h3, h4, h5, h6, h7, h8, h9, h10, h11, h12, h13, h14, h15, h16, h17⟩, rfl⟩
    obtain ⟨_, hin⟩ := rng_split e
    have hlog : (Int.natAbs 2).log2 + ((i : Int)).natAbs.log2 < 1000000 := small_log ⟨by omega, by omega⟩ ⟨by omega, by omega⟩
    generalize hT : (sSeq (sIf (gTst (gBin neD (gApp f_columns_of (gCons (gVar 5) gNil)) (gApp f__law_columns (gCons (gVar 5) gNil)))) _ sNext) _) = T
    simp! [h1, h2, hlog]
    refine wo_cell (by omega) fun c => ?_
    refine wo_start fun s => ?_
    simp! [h3]
    refine wo_four fun ps n1 hp2 hp4 hkd hnm => ?_
    have hnin : ∀ p ∈ ps, p.1 ∈ (["a", "b", "c", "d"] : List Str) := fun p hp => by
      have h : p.1 ∈ (["a", "b", "c", "d"] : List Str).take ps.length := by rw [← hnm]; exact List.mem_map.mpr ⟨p, hp, rfl⟩
      exact List.mem_of_mem_take h
    have hnd : (ps.map (·.1)).Nodup := by rw [hnm]; exact nd4.sublist (List.take_sublist _ _)
    have hn1 : ∀ p ∈ ps, p.1.length ≤ 1000 := fun p hp => (nm4 _ (hnin p hp)).1
    have hns1 : ∀ x ∈ ps.map (·.1), PyData.strOk x = true ∧ PyData.strOk (noC x) = true ∧ smD (.str x) = true := fun x hx => by
      obtain ⟨p, hp, rfl⟩ := List.mem_map.mp hx
      exact (nm4 _ (hnin p hp)).2
    have hsm : ∀ x ∈ ps.map (·.1), smD (.str x) = true := fun x hx => (hns1 x hx).2.2
    simp! [h4, sp_digit]
    refine wo_ix (by omega) (by simp only [List.length_cons, List.length_nil]; omega) fun y hy => ?_
    obtain ⟨k, rfl, hk⟩ : ∃ k, y = .str k ∧ k ∈ knds := by
      simp only [List.mem_cons, List.not_mem_nil, or_false] at hy
      rcases hy with rfl | rfl | rfl | rfl
      · exact ⟨_, rfl, kn_flag⟩
      · exact ⟨_, rfl, kn_whole⟩
      · exact ⟨_, rfl, kn_text⟩
      · exact ⟨_, rfl, kn_any⟩
    simp! [h5, sp_digit]
    obtain ⟨q, hq, hq4⟩ := modN (n1 / 4) (show (0 : Int) < 3 by decide)
    have hq' : 1 + n1 / 4 % 3 = ((1 + q : Nat) : Int) := by omega
    rw [hq']
    refine wo_expr (ps := ps) (by omega) hn1 (1 + q) 11 _ k _ (by omega) (by omega) hk fun ex n2 hx hw => ?_
    have hok : ∀ e, wfE (ps.map (·.1)) e → okTy (ty ps e) := ty_ok hkd (fun x hx => (hns1 x hx).2.1)
    have ht := sp_typed (ps := ps) (e := ex) (by omega) hw
    have hst : ∀ x ∈ ps.map (·.1), PyData.strOk x = true := fun x hx => (hns1 x hx).1
    have hc : f_columns_of [exD ex] = some (.list ((colsE ex).map PyData.str)) := sp_columns_of hst 9 ex (by omega) (by omega) hw
    have hc2 : f__law_columns [exD ex] = some (.list ((colsE ex).map PyData.str)) := sp_lcols hst 9 ex (by omega) (by omega) hw
    have hcs : ∀ x ∈ colsE ex, PyData.strOk x = true := fun x hx => hst x (cols_in ex hw x hx)
    have hce := eqT_strs hcs hcs
    rw [decide_eq_true rfl] at hce
    subst hT
    generalize hT : (sSeq (sSet 8 (gApp reprFU _)) _) = T
    simp! [hc, hc2, hce, hlog]
    refine wo_cell (by omega) fun c => ?_
    refine wo_start fun s => ?_
    simp! [ws_newT, h6]
    refine ws_forA fdD (fun p ρ => ∃ (n3 : Int) (M : Mp) (o7 : Option Cell), NO o7 ∧ (∀ q ∈ M, q.1 ∈ p.map (·.1) ∧ wfE (ps.map (·.1)) q.2 ∧ hgt q.2 ≤ 3) ∧ M.length ≤ p.length ∧ ρ = [some (.val (.list (ns.map PyData.int))), some (.val (.int ↑i)), some (.own false (.list [.int n3])), some (.val (.tuple (ps.map fdD))), some (.val (.str k)), some (.val (exD ex)), some (.own false (.tuple [.dict (mpD M)])), o7, o8, o9, o10, o11, o12, o13, o14, o15, o16, o17]) ⟨_, [], _, h7, (fun _ h => by cases h), Nat.le_refl _, rfl⟩ ?_ ?_
    · clear h7
      rintro p fd b ρ e1 ⟨n3, M, o7, h7, hM, hMl, rfl⟩
      have hfd : fd ∈ ps := by rw [e1]; simp
      have hpl : p.length + 1 ≤ ps.length := by rw [e1]; simp
      have hkf : fd.2 ∈ knds := by
        rcases hkd fd hfd with h | h | h <;> rw [h]
        · exact kn_flag
        · exact kn_whole
        · exact kn_text
      have hne : ∀ q ∈ M, q.1 ≠ fd.1 := fun q hq z => by
        have h1 := (hM q hq).1
        rw [z] at h1
        rw [e1, List.map_append, List.nodup_append] at hnd
        exact hnd.2.2 fd.1 h1 fd.1 (by simp) rfl
      have ef : fdD fd = .tuple [.str fd.1, .str fd.2] := rfl
      simp! [h7.cs, ef, sp_digit]
      split
      · refine setT_w ?_
        simp! []
        refine wo_expr (ps := ps) (by omega) hn1 2 11 _ fd.2 _ (by omega) (by omega) hkf fun m n4 hm hmw => ?_
        simp! []
        refine ⟨⟨_, _, rfl⟩, mpD M, rfl, rfl, by unfold mpD; rw [List.length_map]; omega, ?_⟩
        rw [put_mp m hne]
        refine ⟨n4, M ++ [(fd.1, m)], _, .inr ⟨_, rfl⟩, fun q hq => ?_, by rw [List.length_append, List.length_append]; simp only [List.length_cons, List.length_nil]; omega, rfl⟩
        rcases List.mem_append.mp hq with hq | hq
        · obtain ⟨z1, z2, z3⟩ := hM q hq
          exact ⟨by rw [List.map_append]; exact List.mem_append_left _ z1, z2, z3⟩
        · rw [List.mem_singleton.mp hq]
          exact ⟨by simp, hmw, hm⟩
      · refine ⟨_, M, _, .inr ⟨_, rfl⟩, fun q hq => ?_, by rw [List.length_append]; omega, rfl⟩
        obtain ⟨z1, z2, z3⟩ := hM q hq
        exact ⟨by rw [List.map_append]; exact List.mem_append_left _ z1, z2, z3⟩
    · clear h7
      rintro ρ' ⟨n3, M, o7, h7, hM, hMl, rfl⟩
      obtain ⟨rs, hrs⟩ := repr_two hsm (e := ex) (M := M) hw (by omega) hM (by omega)
      have hsb : f_substituted [exD ex, frzT (mpD M)] = some (exD (subE M ex)) := sp_sub M 9 ex (by omega)
      have hs0 : f_substituted [exD ex, .dict [(.none, .none)]] = some (exD ex) := by
        have := sp_sub [] 9 ex (by omega)
        rw [sub_nil] at this
        exact this
      have hself := ex_self hsm hw (by omega)
      have hwo := sub_wf (fun q hq => (hM q hq).2.1) ex hw
      have hho := sub_hgt (fun q hq => (hM q hq).2.2) ex
      have hto := sp_typed (ps := ps) (e := subE M ex) (by omega) hwo
      rw [then_nx]
      subst hT
      generalize hT : (sSeq (sIf (gNot (gTru (gBin ixD (gApp f__law_typed (gCons (gVar 5) (gCons (gVar 3) gNil))) (gC (.int 1))))) sCnt sNext) _) = T
      simp! [wm_fT, fT_own, fT_val, hrs, h8, h9, hsb, hs0, hself]
      subst hT
      cases hty : ty ps ex with
      | inr m =>
        rw [hty] at ht
        simp! [ht, tyP]
        exact ⟨_, _, _, _, _, _, _, _, _, _, _, _, _, _, _, _, _, ⟨rfl, rfl, rfl, rfl, rfl, rfl, h7, rfl, rfl, h10, h11, h12, h13, h14, h15, h16, h17⟩, rfl⟩
      | inl t =>
        rw [hty] at ht
        generalize hT : (sSeq (sIf (gTst (gInB false 10 (gC (.bool false)))) sCnt sNext) _) = T
        simp! [ht, tyP, List.length_map]
        refine ⟨⟨by omega, by rcases h7 with rfl | ⟨d, rfl⟩ <;> rfl⟩, ?_⟩
        have tm : ∀ m, (∃ x, mlk M x = some m) → f__law_typed [exD m, .tuple (ps.map fdD)] = some (tyP (ty ps m)) ∧ okTy (ty ps m) := fun m hm => by
          obtain ⟨x, hx⟩ := hm
          obtain ⟨_, z2, z3⟩ := hM _ (mlk_mem hx)
          exact ⟨sp_typed (by have : hgt m ≤ 3 := z3; omega) z2, hok m z2⟩
        refine lc_filterA fdD (fun p => PyData.bool (finB ps M p)) (fun p : Str × Str => (mlk M p.1).isSome) ps (fun fd hfd => ?_) ?_
        · have ef : fdD fd = .tuple [.str fd.1, .str fd.2] := rfl
          have i1 := in_mp M fd.1
          have i2 := ix_mp M fd.1
          rw [ef]
          cases q : mlk M fd.1 with
          | none =>
            rw [q] at i1
            simp! [wm_fT, fT_val, i1, q, Option.isSome]
            all_goals first | trivial | simp
          | some m =>
            rw [q] at i1 i2
            obtain ⟨t1, t2⟩ := tm m ⟨_, q⟩
            have t3 := tyP_eq t2 (hkd fd hfd)
            have i2 : ixU (frzT (mpD M)) (.str fd.1) = some (exD m) := i2
            simp! [wm_fT, fT_val, i1, i2, q, Option.isSome, t1, t3, finB]
            all_goals first | trivial | exact ⟨fun _ => ⟨trivial, rfl⟩, fun z => by cases z⟩ | simp
        · simp! [backE, h10]
          subst hT
          have hbs : ((ps.filter fun p : Str × Str => (mlk M p.1).isSome).map fun p => PyData.bool (finB ps M p)) = (((ps.filter fun p : Str × Str => (mlk M p.1).isSome).map (finB ps M)).map PyData.bool) := by rw [List.map_map]; rfl
          rw [hbs]
          generalize hb : (ps.filter fun p : Str × Str => (mlk M p.1).isSome).map (finB ps M) = bs
          have hfi := in_bools bs
          by_cases cf : false ∈ bs
          · rw [decide_eq_true cf] at hfi
            simp! [hfi]
            exact ⟨_, _, _, _, _, _, _, _, _, _, _, _, _, _, _, _, _, ⟨rfl, rfl, rfl, rfl, rfl, rfl, h7, rfl, rfl, rfl, h11, h12, h13, h14, h15, h16, h17⟩, rfl⟩
          · rw [decide_eq_false cf] at hfi
            have hsu : Suits ps M := fun x kk m h1 h2 => by
              have hp : (x, kk) ∈ ps := List.mem_of_getElem? (look_ix2 h1)
              have hf : finB ps M (x, kk) ∈ bs := by
                rw [← hb]
                exact List.mem_map.mpr ⟨(x, kk), List.mem_filter.mpr ⟨hp, by simp [h2]⟩, rfl⟩
              unfold finB at hf
              simp only [h2] at hf
              by_cases z : ty ps m = .inl (some kk)
              · exact z
              · rw [decide_eq_false z] at hf
                exact absurd hf cf
            have hin2 : ∀ p ∈ M, (lookK ps p.1).isSome = true := fun p hp => by
              obtain ⟨q, hq, e⟩ := List.mem_map.mp (hM p hp).1
              rw [← e, look_of hnd hq]
              rfl
            have hsty := sub_ty hsu hin2 ex
            rw [hsty, hty] at hto
            generalize hT : (sFor (gRng1 (gCons (gC (.int 4)) gNil)) (gTN 11) _) = T
            simp! [hfi, hto, tyP]
            subst hT
            simp! []
            have rg4 : rngL 0 4 = (List.range 4).map fun i : Nat => PyData.int i := rfl
            rw [if_pos (by decide), rg4]
            refine ws_forA (fun i : Nat => PyData.int i) (fun a ρ => ∃ (n3 : Int) (o11 o12 o13 o14 o15 o16 o17 : Option Cell), (canSet (some o11) = some () ∧ canSet (some o12) = some () ∧ canSet (some o13) = some () ∧ canSet (some o14) = some () ∧ canSet (some o15) = some () ∧ canSet (some o16) = some () ∧ canSet (some o17) = some ()) ∧ ρ = [some (.val (.list (ns.map PyData.int))), some (.val (.int ↑i)), some (.own false (.list [.int n3])), some (.val (.tuple (ps.map fdD))), some (.val (.str k)), some (.val (exD ex)), some (.val (frzT (mpD M))), o7, some (.val (.str rs)), some (.val (exD (subE M ex))), some (.own false (.list (bs.map PyData.bool))), o11, o12, o13, o14, o15, o16, o17]) ⟨_, _, _, _, _, _, _, _, ⟨h11, h12, h13, h14, h15, h16, h17⟩, rfl⟩ ?_ ?_
            · clear h11 h12 h13 h14 h15 h16 h17
              rintro a j b ρ e1 ⟨n3, o11, o12, o13, o14, o15, o16, o17, ⟨h11, h12, h13, h14, h15, h16, h17⟩, rfl⟩
              generalize hT : (sSeq (sSet 16 _) _) = T
              simp! [h11, h12, h13]
              refine wo_rowT (ps := ps) (fd := .tuple (ps.map fdD)) rfl hkd (by omega) fun vs n4 hfit hgv hvv => ?_
              have hr := row_of hkd hfit hgv hvv
              have lv := hr.len
              simp! [h12, h13, List.length_map]
              rw [if_pos (small_nat (by omega)), Int.toNat_natCast, rng_map]
              refine ws_forA (fun i : Nat => PyData.int i) (fun a ρ => ∃ (o14 o15 : Option Cell), (canSet (some o14) = some () ∧ canSet (some o15) = some ()) ∧ ρ = [some (.val (.list (ns.map PyData.int))), some (.val (.int ↑i)), some (.own false (.list [.int n4])), some (.val (.tuple (ps.map fdD))), some (.val (.str k)), some (.val (exD ex)), some (.val (frzT (mpD M))), o7, some (.val (.str rs)), some (.val (exD (subE M ex))), some (.own false (.list (bs.map PyData.bool))), some (.val (.int ↑j)), some (.val (.tuple vs)), some (.own false (.list ((vals ps M vs).take a.length))), o14, o15, o16, o17]) ⟨_, _, ⟨h14, h15⟩, rfl⟩ ?_ ?_
              · clear h14 h15
                rintro a' m b' ρ e2 ⟨o14, o15, ⟨h14, h15⟩, rfl⟩
                obtain ⟨e3, e4⟩ := rng_split e2
                have g1 : ps[m]? = some ps[m] := List.getElem?_eq_getElem e4
                have g2 : vs[m]? = some (vs[m]'(by omega)) := List.getElem?_eq_getElem _
                generalize hpm : ps[m] = pm at g1
                generalize (vs[m]'(by omega)) = vm at g2
                have i1 : ixA (ps.map fdD) (m : Int) = some (.tuple [.str pm.1, .str pm.2]) := by rw [ixA_nat, List.getElem?_map, g1]; rfl
                have i2 : ixA vs (m : Int) = some vm := by rw [ixA_nat, g2]
                have hmem : pm ∈ ps := List.mem_of_getElem? g1
                have g3 := vals_at (M := M) g1 g2
                have t1 := take_snoc g3
                have l1 := vals_len (M := M) lv
                have i3 := in_mp M pm.1
                have i4 := ix_mp M pm.1
                unfold vin at t1
                rw [e3]
                cases qm : mlk M pm.1 with
                | none =>
                  rw [qm] at i3
                  simp only [qm] at t1
                  simp! [h14, h15, i1, i2, wm_fT, fT_val, i3, Option.isSome]
                  refine ⟨by rw [List.length_take]; omega, some (.val (.int ↑m)), some (.val vm), ⟨rfl, rfl⟩, ?_⟩
                  rw [List.length_append, List.length_singleton, e3, t1]
                | some em =>
                  rw [qm] at i3 i4
                  simp only [qm] at t1
                  have i4 : ixU (frzT (mpD M)) (.str pm.1) = some (exD em) := i4
                  obtain ⟨_, z2, z3⟩ := hM _ (mlk_mem qm)
                  have z3 : hgt em ≤ 3 := z3
                  have hev : f_evaluate [exD em, .tuple (ps.map fdD), .tuple vs] = some (ev ps vs em) := sp_evaluate hr em 15 (some pm.2) (by omega) z2 (hsu pm.1 pm.2 em (look_of hnd hmem) qm)
                  simp! [h14, h15, i1, i2, wm_fT, fT_val, i3, i4, Option.isSome, hev]
                  refine ⟨by rw [List.length_take]; omega, some (.val (.int ↑m)), some (.val (ev ps vs em)), ⟨rfl, rfl⟩, ?_⟩
                  rw [List.length_append, List.length_singleton, e3, t1]
              · clear h14 h15
                rintro ρ' ⟨o14, o15, ⟨h14, h15⟩, rfl⟩
                have l1 := vals_len (M := M) lv
                rw [List.length_range, List.take_of_length_le (by omega)]
                have hrv := vals_row hnd hsu (fun q hq => (hM q hq).2.1) hr
                have eo : ty ps (subE M ex) = .inl t := by rw [hsty, hty]
                have w1 : f_evaluate [exD (subE M ex), .tuple (ps.map fdD), .tuple vs] = some (ev ps (vals ps M vs) ex) := by
                  rw [← sub_ev (vals_ev lv) ex t hty]
                  exact sp_evaluate hr (subE M ex) 15 t (by omega) hwo eo
                have w2 : f_evaluate [exD ex, .tuple (ps.map fdD), .tuple (vals ps M vs)] = some (ev ps (vals ps M vs) ex) := sp_evaluate hrv ex 15 t (by omega) hw hty
                have g := tok_gv (ev_tok hrv ex t hw hty)
                subst hT
                simp! [h16, h17, w1, w2, sp_rank g, sp_before g g, ltV_irr g]
                exact ⟨_, _, _, _, _, _, _, _, ⟨rfl, rfl, rfl, h14, h15, rfl, rfl⟩, rfl⟩
            · clear h11 h12 h13 h14 h15 h16 h17
              rintro ρ' ⟨n3, o11, o12, o13, o14, o15, o16, o17, ⟨h11, h12, h13, h14, h15, h16, h17⟩, rfl⟩
              exact ⟨_, _, _, _, _, _, _, _, _, _, _, _, _, _, _, _, _, ⟨rfl, rfl, rfl, rfl, rfl, rfl, h7, rfl, rfl, rfl, h11, h12, h13, h14, h15, h16, h17⟩, rfl⟩
  · rintro ρ' ⟨o1, o2, o3, o4, o5, o6, o7, o8, o9, o10, o11, o12, o13, o14, o15, o16, o17, _, rfl⟩
    simp! []
end Lw
set_option maxHeartbeats 4000000
namespace Lw
open PySem PySem.Spec PyProof.Rows L2 Dn
theorem all_mk {l : PySem.W.OpenLaw} {w : World} {K : PySem.W.Frag} {h : Heap} {mg : Str → Option Value} {fa : Addr} (X : K.In h) (G : h.Ns mainGlobals mg) (hfa : mg "law" = some (.ref fa))
    {f0 : Addr} {oc0 kV0 dc0 pm0 cd0 ct0 : Value} {od0 an0 : Option Addr} {sl0 : Array (Option Value)}
    (a0 : PySem.W.nsIn K mainGlobals "_law_rank" = some (some (.ref f0))) (l0 : K.lookup f0 = some ⟨oc0, od0, .func (PySem.W.fnOf "_law_rank" "_law_rank" (defArgs s__law_rank) (defBody s__law_rank) (defScope s__law_rank) .none kV0 dc0 pm0 an0 cd0 ct0), sl0⟩) (c0 : PySem.W.codeIn K cd0 "_law_rank" = true) (k0 : PySem.W.keepIn K (.ref f0) = true)
    {f1 : Addr} {oc1 kV1 dc1 pm1 cd1 ct1 : Value} {od1 an1 : Option Addr} {sl1 : Array (Option Value)}
    (a1 : PySem.W.nsIn K mainGlobals "_law_before" = some (some (.ref f1))) (l1 : K.lookup f1 = some ⟨oc1, od1, .func (PySem.W.fnOf "_law_before" "_law_before" (defArgs s__law_before) (defBody s__law_before) (defScope s__law_before) .none kV1 dc1 pm1 an1 cd1 ct1), sl1⟩) (c1 : PySem.W.codeIn K cd1 "_law_before" = true) (k1 : PySem.W.keepIn K (.ref f1) = true)
    {f2 : Addr} {oc2 kV2 dc2 pm2 cd2 ct2 : Value} {od2 an2 : Option Addr} {sl2 : Array (Option Value)}
    (a2 : PySem.W.nsIn K mainGlobals "_law_cell" = some (some (.ref f2))) (l2 : K.lookup f2 = some ⟨oc2, od2, .func (PySem.W.fnOf "_law_cell" "_law_cell" (defArgs s__law_cell) (defBody s__law_cell) (defScope s__law_cell) .none kV2 dc2 pm2 an2 cd2 ct2), sl2⟩) (c2 : PySem.W.codeIn K cd2 "_law_cell" = true) (k2 : PySem.W.keepIn K (.ref f2) = true)
    {f3 : Addr} {oc3 kV3 dc3 pm3 cd3 ct3 : Value} {od3 an3 : Option Addr} {sl3 : Array (Option Value)}
    (a3 : PySem.W.nsIn K mainGlobals "_law_columns" = some (some (.ref f3))) (l3 : K.lookup f3 = some ⟨oc3, od3, .func (PySem.W.fnOf "_law_columns" "_law_columns" (defArgs s__law_columns) (defBody s__law_columns) (defScope s__law_columns) .none kV3 dc3 pm3 an3 cd3 ct3), sl3⟩) (c3 : PySem.W.codeIn K cd3 "_law_columns" = true) (k3 : PySem.W.keepIn K (.ref f3) = true)
    {f4 : Addr} {oc4 kV4 dc4 pm4 cd4 ct4 : Value} {od4 an4 : Option Addr} {sl4 : Array (Option Value)}
    (a4 : PySem.W.nsIn K mainGlobals "_law_digit" = some (some (.ref f4))) (l4 : K.lookup f4 = some ⟨oc4, od4, .func (PySem.W.fnOf "_law_digit" "_law_digit" (defArgs s__law_digit) (defBody s__law_digit) (defScope s__law_digit) .none kV4 dc4 pm4 an4 cd4 ct4), sl4⟩) (c4 : PySem.W.codeIn K cd4 "_law_digit" = true) (k4 : PySem.W.keepIn K (.ref f4) = true)
    {f5 : Addr} {oc5 kV5 dc5 pm5 cd5 ct5 : Value} {od5 an5 : Option Addr} {sl5 : Array (Option Value)}
    (a5 : PySem.W.nsIn K mainGlobals "_law_flag" = some (some (.ref f5))) (l5 : K.lookup f5 = some ⟨oc5, od5, .func (PySem.W.fnOf "_law_flag" "_law_flag" (defArgs s__law_flag) (defBody s__law_flag) (defScope s__law_flag) .none kV5 dc5 pm5 an5 cd5 ct5), sl5⟩) (c5 : PySem.W.codeIn K cd5 "_law_flag" = true) (k5 : PySem.W.keepIn K (.ref f5) = true)
    {f6 : Addr} {oc6 kV6 dc6 pm6 cd6 ct6 : Value} {od6 an6 : Option Addr} {sl6 : Array (Option Value)}
    (a6 : PySem.W.nsIn K mainGlobals "_law_names" = some (some (.ref f6))) (l6 : K.lookup f6 = some ⟨oc6, od6, .func (PySem.W.fnOf "_law_names" "_law_names" (defArgs s__law_names) (defBody s__law_names) (defScope s__law_names) .none kV6 dc6 pm6 an6 cd6 ct6), sl6⟩) (c6 : PySem.W.codeIn K cd6 "_law_names" = true) (k6 : PySem.W.keepIn K (.ref f6) = true)
    {f7 : Addr} {oc7 kV7 dc7 pm7 cd7 ct7 : Value} {od7 an7 : Option Addr} {sl7 : Array (Option Value)}
    (a7 : PySem.W.nsIn K mainGlobals "_law_value" = some (some (.ref f7))) (l7 : K.lookup f7 = some ⟨oc7, od7, .func (PySem.W.fnOf "_law_value" "_law_value" (defArgs s__law_value) (defBody s__law_value) (defScope s__law_value) .none kV7 dc7 pm7 an7 cd7 ct7), sl7⟩) (c7 : PySem.W.codeIn K cd7 "_law_value" = true) (k7 : PySem.W.keepIn K (.ref f7) = true)
    {f8 : Addr} {oc8 kV8 dc8 pm8 cd8 ct8 : Value} {od8 an8 : Option Addr} {sl8 : Array (Option Value)}
    (a8 : PySem.W.nsIn K mainGlobals "_law_leaf" = some (some (.ref f8))) (l8 : K.lookup f8 = some ⟨oc8, od8, .func (PySem.W.fnOf "_law_leaf" "_law_leaf" (defArgs s__law_leaf) (defBody s__law_leaf) (defScope s__law_leaf) .none kV8 dc8 pm8 an8 cd8 ct8), sl8⟩) (c8 : PySem.W.codeIn K cd8 "_law_leaf" = true) (k8 : PySem.W.keepIn K (.ref f8) = true)
    {f9 : Addr} {oc9 kV9 dc9 pm9 cd9 ct9 : Value} {od9 an9 : Option Addr} {sl9 : Array (Option Value)}
    (a9 : PySem.W.nsIn K mainGlobals "_law_expression" = some (some (.ref f9))) (l9 : K.lookup f9 = some ⟨oc9, od9, .func (PySem.W.fnOf "_law_expression" "_law_expression" (defArgs s__law_expression) (defBody s__law_expression) (defScope s__law_expression) .none kV9 dc9 pm9 an9 cd9 ct9), sl9⟩) (c9 : PySem.W.codeIn K cd9 "_law_expression" = true) (k9 : PySem.W.keepIn K (.ref f9) = true)
    {f10 : Addr} {oc10 kV10 dc10 pm10 cd10 ct10 : Value} {od10 an10 : Option Addr} {sl10 : Array (Option Value)}
    (a10 : PySem.W.nsIn K mainGlobals "_law_four" = some (some (.ref f10))) (l10 : K.lookup f10 = some ⟨oc10, od10, .func (PySem.W.fnOf "_law_four" "_law_four" (defArgs s__law_four) (defBody s__law_four) (defScope s__law_four) .none kV10 dc10 pm10 an10 cd10 ct10), sl10⟩) (c10 : PySem.W.codeIn K cd10 "_law_four" = true) (k10 : PySem.W.keepIn K (.ref f10) = true)
    {f11 : Addr} {oc11 kV11 dc11 pm11 cd11 ct11 : Value} {od11 an11 : Option Addr} {sl11 : Array (Option Value)}
    (a11 : PySem.W.nsIn K mainGlobals "_law_row" = some (some (.ref f11))) (l11 : K.lookup f11 = some ⟨oc11, od11, .func (PySem.W.fnOf "_law_row" "_law_row" (defArgs s__law_row) (defBody s__law_row) (defScope s__law_row) .none kV11 dc11 pm11 an11 cd11 ct11), sl11⟩) (c11 : PySem.W.codeIn K cd11 "_law_row" = true) (k11 : PySem.W.keepIn K (.ref f11) = true)
    {f12 : Addr} {oc12 kV12 dc12 pm12 cd12 ct12 : Value} {od12 an12 : Option Addr} {sl12 : Array (Option Value)}
    (a12 : PySem.W.nsIn K mainGlobals "_law_start" = some (some (.ref f12))) (l12 : K.lookup f12 = some ⟨oc12, od12, .func (PySem.W.fnOf "_law_start" "_law_start" (defArgs s__law_start) (defBody s__law_start) (defScope s__law_start) .none kV12 dc12 pm12 an12 cd12 ct12), sl12⟩) (c12 : PySem.W.codeIn K cd12 "_law_start" = true) (k12 : PySem.W.keepIn K (.ref f12) = true)
    {f13 : Addr} {oc13 kV13 dc13 pm13 cd13 ct13 : Value} {od13 an13 : Option Addr} {sl13 : Array (Option Value)}
    (a13 : PySem.W.nsIn K mainGlobals "column_index" = some (some (.ref f13))) (l13 : K.lookup f13 = some ⟨oc13, od13, .func (PySem.W.fnOf "column_index" "column_index" (defArgs s_column_index) (defBody s_column_index) (defScope s_column_index) .none kV13 dc13 pm13 an13 cd13 ct13), sl13⟩) (c13 : PySem.W.codeIn K cd13 "column_index" = true) (k13 : PySem.W.keepIn K (.ref f13) = true)
    {f14 : Addr} {oc14 kV14 dc14 pm14 cd14 ct14 : Value} {od14 an14 : Option Addr} {sl14 : Array (Option Value)}
    (a14 : PySem.W.nsIn K mainGlobals "parts_of" = some (some (.ref f14))) (l14 : K.lookup f14 = some ⟨oc14, od14, .func (PySem.W.fnOf "parts_of" "parts_of" (defArgs s_parts_of) (defBody s_parts_of) (defScope s_parts_of) .none kV14 dc14 pm14 an14 cd14 ct14), sl14⟩) (c14 : PySem.W.codeIn K cd14 "parts_of" = true) (k14 : PySem.W.keepIn K (.ref f14) = true)
    {f15 : Addr} {oc15 kV15 dc15 pm15 cd15 ct15 : Value} {od15 an15 : Option Addr} {sl15 : Array (Option Value)}
    (a15 : PySem.W.nsIn K mainGlobals "agree" = some (some (.ref f15))) (l15 : K.lookup f15 = some ⟨oc15, od15, .func (PySem.W.fnOf "agree" "agree" (defArgs s_agree) (defBody s_agree) (defScope s_agree) .none kV15 dc15 pm15 an15 cd15 ct15), sl15⟩) (c15 : PySem.W.codeIn K cd15 "agree" = true) (k15 : PySem.W.keepIn K (.ref f15) = true)
    {f16 : Addr} {oc16 kV16 dc16 pm16 cd16 ct16 : Value} {od16 an16 : Option Addr} {sl16 : Array (Option Value)}
    (a16 : PySem.W.nsIn K mainGlobals "want" = some (some (.ref f16))) (l16 : K.lookup f16 = some ⟨oc16, od16, .func (PySem.W.fnOf "want" "want" (defArgs s_want) (defBody s_want) (defScope s_want) .none kV16 dc16 pm16 an16 cd16 ct16), sl16⟩) (c16 : PySem.W.codeIn K cd16 "want" = true) (k16 : PySem.W.keepIn K (.ref f16) = true)
    {f17 : Addr} {oc17 kV17 dc17 pm17 cd17 ct17 : Value} {od17 an17 : Option Addr} {sl17 : Array (Option Value)}
    (a17 : PySem.W.nsIn K mainGlobals "type_of_binary" = some (some (.ref f17))) (l17 : K.lookup f17 = some ⟨oc17, od17, .func (PySem.W.fnOf "type_of_binary" "type_of_binary" (defArgs s_type_of_binary) (defBody s_type_of_binary) (defScope s_type_of_binary) .none kV17 dc17 pm17 an17 cd17 ct17), sl17⟩) (c17 : PySem.W.codeIn K cd17 "type_of_binary" = true) (k17 : PySem.W.keepIn K (.ref f17) = true)
    {f18 : Addr} {oc18 kV18 dc18 pm18 cd18 ct18 : Value} {od18 an18 : Option Addr} {sl18 : Array (Option Value)}
    (a18 : PySem.W.nsIn K mainGlobals "type_of_value" = some (some (.ref f18))) (l18 : K.lookup f18 = some ⟨oc18, od18, .func (PySem.W.fnOf "type_of_value" "type_of_value" (defArgs s_type_of_value) (defBody s_type_of_value) (defScope s_type_of_value) .none kV18 dc18 pm18 an18 cd18 ct18), sl18⟩) (c18 : PySem.W.codeIn K cd18 "type_of_value" = true) (k18 : PySem.W.keepIn K (.ref f18) = true)
    {f19 : Addr} {oc19 kV19 dc19 pm19 cd19 ct19 : Value} {od19 an19 : Option Addr} {sl19 : Array (Option Value)}
    (a19 : PySem.W.nsIn K mainGlobals "type_of" = some (some (.ref f19))) (l19 : K.lookup f19 = some ⟨oc19, od19, .func (PySem.W.fnOf "type_of" "type_of" (defArgs s_type_of) (defBody s_type_of) (defScope s_type_of) .none kV19 dc19 pm19 an19 cd19 ct19), sl19⟩) (c19 : PySem.W.codeIn K cd19 "type_of" = true) (k19 : PySem.W.keepIn K (.ref f19) = true)
    {f20 : Addr} {oc20 kV20 dc20 pm20 cd20 ct20 : Value} {od20 an20 : Option Addr} {sl20 : Array (Option Value)}
    (a20 : PySem.W.nsIn K mainGlobals "_law_typed" = some (some (.ref f20))) (l20 : K.lookup f20 = some ⟨oc20, od20, .func (PySem.W.fnOf "_law_typed" "_law_typed" (defArgs s__law_typed) (defBody s__law_typed) (defScope s__law_typed) .none kV20 dc20 pm20 an20 cd20 ct20), sl20⟩) (c20 : PySem.W.codeIn K cd20 "_law_typed" = true) (k20 : PySem.W.keepIn K (.ref f20) = true)
    {f21 : Addr} {oc21 kV21 dc21 pm21 cd21 ct21 : Value} {od21 an21 : Option Addr} {sl21 : Array (Option Value)}
    (a21 : PySem.W.nsIn K mainGlobals "columns_of" = some (some (.ref f21))) (l21 : K.lookup f21 = some ⟨oc21, od21, .func (PySem.W.fnOf "columns_of" "columns_of" (defArgs s_columns_of) (defBody s_columns_of) (defScope s_columns_of) .none kV21 dc21 pm21 an21 cd21 ct21), sl21⟩) (c21 : PySem.W.codeIn K cd21 "columns_of" = true) (k21 : PySem.W.keepIn K (.ref f21) = true)
    {f22 : Addr} {oc22 kV22 dc22 pm22 cd22 ct22 : Value} {od22 an22 : Option Addr} {sl22 : Array (Option Value)}
    (a22 : PySem.W.nsIn K mainGlobals "bounded" = some (some (.ref f22))) (l22 : K.lookup f22 = some ⟨oc22, od22, .func (PySem.W.fnOf "bounded" "bounded" (defArgs s_bounded) (defBody s_bounded) (defScope s_bounded) .none kV22 dc22 pm22 an22 cd22 ct22), sl22⟩) (c22 : PySem.W.codeIn K cd22 "bounded" = true) (k22 : PySem.W.keepIn K (.ref f22) = true)
    {f23 : Addr} {oc23 kV23 dc23 pm23 cd23 ct23 : Value} {od23 an23 : Option Addr} {sl23 : Array (Option Value)}
    (a23 : PySem.W.nsIn K mainGlobals "value_order" = some (some (.ref f23))) (l23 : K.lookup f23 = some ⟨oc23, od23, .func (PySem.W.fnOf "value_order" "value_order" (defArgs s_value_order) (defBody s_value_order) (defScope s_value_order) .none kV23 dc23 pm23 an23 cd23 ct23), sl23⟩) (c23 : PySem.W.codeIn K cd23 "value_order" = true) (k23 : PySem.W.keepIn K (.ref f23) = true)
    {f24 : Addr} {oc24 kV24 dc24 pm24 cd24 ct24 : Value} {od24 an24 : Option Addr} {sl24 : Array (Option Value)}
    (a24 : PySem.W.nsIn K mainGlobals "reckon" = some (some (.ref f24))) (l24 : K.lookup f24 = some ⟨oc24, od24, .func (PySem.W.fnOf "reckon" "reckon" (defArgs s_reckon) (defBody s_reckon) (defScope s_reckon) .none kV24 dc24 pm24 an24 cd24 ct24), sl24⟩) (c24 : PySem.W.codeIn K cd24 "reckon" = true) (k24 : PySem.W.keepIn K (.ref f24) = true)
    {f25 : Addr} {oc25 kV25 dc25 pm25 cd25 ct25 : Value} {od25 an25 : Option Addr} {sl25 : Array (Option Value)}
    (a25 : PySem.W.nsIn K mainGlobals "evaluate_binary" = some (some (.ref f25))) (l25 : K.lookup f25 = some ⟨oc25, od25, .func (PySem.W.fnOf "evaluate_binary" "evaluate_binary" (defArgs s_evaluate_binary) (defBody s_evaluate_binary) (defScope s_evaluate_binary) .none kV25 dc25 pm25 an25 cd25 ct25), sl25⟩) (c25 : PySem.W.codeIn K cd25 "evaluate_binary" = true) (k25 : PySem.W.keepIn K (.ref f25) = true)
    {f26 : Addr} {oc26 kV26 dc26 pm26 cd26 ct26 : Value} {od26 an26 : Option Addr} {sl26 : Array (Option Value)}
    (a26 : PySem.W.nsIn K mainGlobals "evaluate" = some (some (.ref f26))) (l26 : K.lookup f26 = some ⟨oc26, od26, .func (PySem.W.fnOf "evaluate" "evaluate" (defArgs s_evaluate) (defBody s_evaluate) (defScope s_evaluate) .none kV26 dc26 pm26 an26 cd26 ct26), sl26⟩) (c26 : PySem.W.codeIn K cd26 "evaluate" = true) (k26 : PySem.W.keepIn K (.ref f26) = true)
    {f27 : Addr} {oc27 kV27 dc27 pm27 cd27 ct27 : Value} {od27 an27 : Option Addr} {sl27 : Array (Option Value)}
    (a27 : PySem.W.nsIn K mainGlobals "substituted" = some (some (.ref f27))) (l27 : K.lookup f27 = some ⟨oc27, od27, .func (PySem.W.fnOf "substituted" "substituted" (defArgs s_substituted) (defBody s_substituted) (defScope s_substituted) .none kV27 dc27 pm27 an27 cd27 ct27), sl27⟩) (c27 : PySem.W.codeIn K cd27 "substituted" = true) (k27 : PySem.W.keepIn K (.ref f27) = true)
    {f28 : Addr} {oc28 kV28 dc28 pm28 cd28 ct28 : Value} {od28 an28 : Option Addr} {sl28 : Array (Option Value)}
    (a28 : PySem.W.nsIn K mainGlobals "law" = some (some (.ref f28))) (l28 : K.lookup f28 = some ⟨oc28, od28, .func (PySem.W.fnOf "law" "law" (defArgs s_law) (defBody s_law) (defScope s_law) .none kV28 dc28 pm28 an28 cd28 ct28), sl28⟩) (c28 : PySem.W.codeIn K cd28 "law" = true) (k28 : PySem.W.keepIn K (.ref f28) = true)
    (z0 : PySem.W.nsIn K mainGlobals "abs" = some none)
    (z1 : PySem.W.nsIn K mainGlobals "bool" = some none)
    (z2 : PySem.W.nsIn K mainGlobals "enumerate" = some none)
    (z3 : PySem.W.nsIn K mainGlobals "int" = some none)
    (z4 : PySem.W.nsIn K mainGlobals "isinstance" = some none)
    (z5 : PySem.W.nsIn K mainGlobals "len" = some none)
    (z6 : PySem.W.nsIn K mainGlobals "list" = some none)
    (z7 : PySem.W.nsIn K mainGlobals "max" = some none)
    (z8 : PySem.W.nsIn K mainGlobals "min" = some none)
    (z9 : PySem.W.nsIn K mainGlobals "range" = some none)
    (z10 : PySem.W.nsIn K mainGlobals "repr" = some none)
    (z11 : PySem.W.nsIn K mainGlobals "tuple" = some none)
    {tk0 : Tok} (y0 : PySem.W.nsIn K mainGlobals "MOST_NUMBER" = some (some (.int 1000000000 tk0)))
    {CT fI cdI ccI : Addr} {oI dcI pmI ctI cclI clI : Value} {odI anI cddI cldI : Option Addr} {slI ccsI cslI : Array (Option Value)} {vsI : Array Value} {fileI : Str} {tfI : Tok}
    {C_InvalidOperator N_InvalidOperator_ : Addr} {nm_InvalidOperator q_InvalidOperator : Str} {bs_InvalidOperator bm_InvalidOperator sub_InvalidOperator : List Value} {sn_InvalidOperator : List Str} {ab_InvalidOperator : Bool} {col_InvalidOperator : Option Bool} {dd_InvalidOperator : Option Addr} {m0_InvalidOperator m1_InvalidOperator m2_InvalidOperator m3_InvalidOperator m5_InvalidOperator : Option Value}
    (xgx_InvalidOperator : PySem.W.nsIn K mainGlobals "InvalidOperator" = some (some (.ref C_InvalidOperator)))
    (xxL_InvalidOperator : K.lookup C_InvalidOperator = some (excClassObj nm_InvalidOperator q_InvalidOperator C_InvalidOperator N_InvalidOperator_ bs_InvalidOperator bm_InvalidOperator true sn_InvalidOperator sub_InvalidOperator ab_InvalidOperator col_InvalidOperator dd_InvalidOperator m0_InvalidOperator m1_InvalidOperator m2_InvalidOperator m3_InvalidOperator m5_InvalidOperator "ValueError.__new__"))
    (xhb_InvalidOperator : PySem.HandSPX.refsVE bm_InvalidOperator = true)
    (xsa_InvalidOperator : PySem.W.findIn K (.ref C_InvalidOperator) "__setattr__" = some (some (.builtin "object.__setattr__")))
    (xga_InvalidOperator : PySem.W.findIn K (.ref C_InvalidOperator) "__getattribute__" = some (some (.builtin "BaseException.__getattribute__")))
    (xgg_InvalidOperator : PySem.W.findIn K (.ref C_InvalidOperator) "__getattr__" = some none)
    (xnb_InvalidOperator : PySem.W.findIn K (.ref C_InvalidOperator) "message" = some none)
    (xai_InvalidOperator : PySem.W.findIn K (.ref C_InvalidOperator) "__init__" = some (some (.ref fI)))
    (xkC_InvalidOperator : PySem.W.keepIn K (.ref C_InvalidOperator) = true)
    (xeC_InvalidOperator : PySem.W.subIn K (.ref C_InvalidOperator) (.type "BaseException") = some true)
    (xvC_InvalidOperator : PySem.W.subIn K (.ref C_InvalidOperator) (.type "ValueError") = some true)
    (xtC_InvalidOperator : PySem.W.typeIn K (.ref C_InvalidOperator) = some (.type "type"))
    (xhC_InvalidOperator : PySem.W.hasDictIn K C_InvalidOperator = true)
    (xiC_InvalidOperator : PySem.W.isClsIn K C_InvalidOperator = true)
    (xca_InvalidOperator : PySem.W.findIn K (.ref C_InvalidOperator) "__class__" = some (some (.builtin "object.__class__")))
    (xcm_InvalidOperator : PySem.W.mroIn K C_InvalidOperator (.type "object") = some true)
    (xlI : K.lookup fI = some ⟨oI, odI, .func (PySem.W.ksFn "__init__" "TideweirError.__init__" (Tw.iA ⟨27, 17, 27, 21⟩ ⟨27, 23, 27, 30⟩) (Tw.iB ⟨28, 8, 28, 13⟩ ⟨28, 8, 28, 15⟩ ⟨28, 8, 28, 24⟩ ⟨28, 25, 28, 32⟩ ⟨28, 8, 28, 33⟩ ⟨28, 8, 28, 33⟩ ⟨29, 8, 29, 12⟩ ⟨29, 8, 29, 20⟩ ⟨29, 23, 29, 30⟩ ⟨29, 8, 29, 30⟩) Tw.iS .none .none dcI pmI anI (.ref cdI) ctI ccI), slI⟩)
    (xcI : PySem.W.codeIn K (.ref cdI) "TideweirError.__init__" = true)
    (xlc : K.lookup cdI = some ⟨cclI, cddI, .fields vsI, ccsI⟩)
    (xhv : vsI[2]? = some (.str fileI tfI))
    (xhf : ((l.prog.main.file : Str) == fileI) = true)
    (xlo : K.lookup ccI = some ⟨clI, cldI, .cell (some (.ref CT)), cslI⟩)
    (xiT : PySem.W.isClsIn K CT = true)
    (xty : PySem.W.typeIn K (.ref fI) = some (.type "function"))
    (xnu : PySem.W.nsIn K mainGlobals "super" = some none)
    (xop : PySem.W.nsIn K PySem.cStatics "thirdparty.any" = some none)
    (xtp : (l.prog.main.scope.names.lookup ("super" : Str)).isSome = false)
    (xcn : PySem.W.specialIn K (.builtin "object.__class__") "__get__" = some (some (.builtin "getset_descriptor.__get__")))
    (xct : PySem.W.takesIn K (.builtin "object.__class__") = some true)
    (xsT_InvalidOperator : PySem.W.mroIn K C_InvalidOperator (.ref CT) = some true)
    (xku_InvalidOperator : PySem.W.ks_superIn K C_InvalidOperator CT "__init__" = some (some (.builtin "ValueError.__init__")))
    (xe_InvalidOperator_InvalidOperator : PySem.W.subIn K (.ref C_InvalidOperator) (.ref C_InvalidOperator) = some true)
    : ∃ fd : FuncData, Fun K "law" "law" s_law fa fd ∧ (∀ (s : Shared) (v : Value), BindsTo s fd ⟨[v], []⟩ [("script", v)]) ∧ ∀ (base : Heap) (cdv : Value) (s : Shared) (H : Hp) (E : XK), K.In base → base.Ns mainGlobals mg → (∃ mm, base.Ns sysModules mm) → DSs (cxOf CX0 l.prog w K mg base N_law "law" (defScope s_law) fa cdv callerA [] s H E).nox (defBody s_law) g_law := by
  have e := hfa.symm.trans (PySem.W.mg_of X G a28)
  cases e
  let T : Txt l.prog K mg := ⟨_, _, fun_mk (st := s__law_rank) l0 c0 k0, PySem.W.mg_of X G a0, _, _, fun_mk (st := s__law_before) l1 c1 k1, PySem.W.mg_of X G a1, _, _, fun_mk (st := s__law_cell) l2 c2 k2, PySem.W.mg_of X G a2, _, _, fun_mk (st := s__law_columns) l3 c3 k3, PySem.W.mg_of X G a3, _, _, fun_mk (st := s__law_digit) l4 c4 k4, PySem.W.mg_of X G a4, _, _, fun_mk (st := s__law_flag) l5 c5 k5, PySem.W.mg_of X G a5, _, _, fun_mk (st := s__law_names) l6 c6 k6, PySem.W.mg_of X G a6, _, _, fun_mk (st := s__law_value) l7 c7 k7, PySem.W.mg_of X G a7, _, _, fun_mk (st := s__law_leaf) l8 c8 k8, PySem.W.mg_of X G a8, _, _, fun_mk (st := s__law_expression) l9 c9 k9, PySem.W.mg_of X G a9, _, _, fun_mk (st := s__law_four) l10 c10 k10, PySem.W.mg_of X G a10, _, _, fun_mk (st := s__law_row) l11 c11 k11, PySem.W.mg_of X G a11, _, _, fun_mk (st := s__law_start) l12 c12 k12, PySem.W.mg_of X G a12, _, _, fun_mk (st := s_column_index) l13 c13 k13, PySem.W.mg_of X G a13, _, _, fun_mk (st := s_parts_of) l14 c14 k14, PySem.W.mg_of X G a14, _, _, fun_mk (st := s_agree) l15 c15 k15, PySem.W.mg_of X G a15, _, _, fun_mk (st := s_want) l16 c16 k16, PySem.W.mg_of X G a16, _, _, fun_mk (st := s_type_of_binary) l17 c17 k17, PySem.W.mg_of X G a17, _, _, fun_mk (st := s_type_of_value) l18 c18 k18, PySem.W.mg_of X G a18, _, _, fun_mk (st := s_type_of) l19 c19 k19, PySem.W.mg_of X G a19, _, _, fun_mk (st := s__law_typed) l20 c20 k20, PySem.W.mg_of X G a20, _, _, fun_mk (st := s_columns_of) l21 c21 k21, PySem.W.mg_of X G a21, _, _, fun_mk (st := s_bounded) l22 c22 k22, PySem.W.mg_of X G a22, _, _, fun_mk (st := s_value_order) l23 c23 k23, PySem.W.mg_of X G a23, _, _, fun_mk (st := s_reckon) l24 c24 k24, PySem.W.mg_of X G a24, _, _, fun_mk (st := s_evaluate_binary) l25 c25 k25, PySem.W.mg_of X G a25, _, _, fun_mk (st := s_evaluate) l26 c26 k26, PySem.W.mg_of X G a26, _, _, fun_mk (st := s_substituted) l27 c27 k27, PySem.W.mg_of X G a27, _, _, fun_mk (st := s_law) l28 c28 k28, PySem.W.mg_of X G a28, PySem.W.mg_none_of X G z0, PySem.W.mg_none_of X G z1, PySem.W.mg_none_of X G z2, PySem.W.mg_none_of X G z3, PySem.W.mg_none_of X G z4, PySem.W.mg_none_of X G z5, PySem.W.mg_none_of X G z6, PySem.W.mg_none_of X G z7, PySem.W.mg_none_of X G z8, PySem.W.mg_none_of X G z9, PySem.W.mg_none_of X G z10, PySem.W.mg_none_of X G z11, ⟨_, PySem.W.mg_of X G y0⟩, CT, fI, C_InvalidOperator, ⟨PySem.W.mg_of X G xgx_InvalidOperator, ⟨_, _, _, _, _, _, _, _, _, _, _, _, _, _, _, xxL_InvalidOperator, xhb_InvalidOperator⟩, xsa_InvalidOperator, xga_InvalidOperator, xgg_InvalidOperator, xnb_InvalidOperator, xai_InvalidOperator, xty, xkC_InvalidOperator, xeC_InvalidOperator, xvC_InvalidOperator, xtC_InvalidOperator, xhC_InvalidOperator, xiC_InvalidOperator, xca_InvalidOperator, xcn, xct, xcm_InvalidOperator, ⟨_, _, _, _, _, _, _, _, _, _, _, _, _, _, _, _, _, _, _, _, _, xlI, rfl, xcI, ⟨_, _, _, _, _, _, xlc, xhv, xhf⟩, _, _, _, xlo⟩, Option.isSome_iff_exists.mp xiT, xsT_InvalidOperator, PySem.W.mg_none_of X G xnu, xop, xku_InvalidOperator, xtp⟩, PySem.W.exm_ref xeC_InvalidOperator xhC_InvalidOperator xtC_InvalidOperator xe_InvalidOperator_InvalidOperator⟩
  exact ⟨T.d_law, T.F_law, fun s v => .of_eq rfl, fun base cdv s H E _ _ hm => ok_law T hm cdv s H E⟩
end Lw
open PySem PySem.W PyProof.Rows
set_option maxHeartbeats 0 in
theorem PySem.Challenge.cw_tideweir_k13_columns_and_substitution_holds : PySem.Challenge.rw_tideweir_k13_columns_and_substitution.Holds := by
  w_on; o_law; k_head; (case hw => w_witness2)
  k_fill
  refine Dn.walk_bodyM (l := PySem.Challenge.rw_tideweir_k13_columns_and_substitution) (k := 18) (st := Lw.s_law) (N := Lw.N_law) (g := Lw.g_law) (by decide +kernel) rfl rfl ⟨rfl, by decide, by decide⟩ (fun w h Y => PySem.W.kIn_of Y) Lw.sc_law ?F (fun ns h => Lw.law_true ns h)
  case F =>
    intro w mg fa h KX G hmg
    refine' Lw.all_mk KX G hmg ?a0 ?l0 ?c0 ?k0 ?a1 ?l1 ?c1 ?k1 ?a2 ?l2 ?c2 ?k2 ?a3 ?l3 ?c3 ?k3 ?a4 ?l4 ?c4 ?k4 ?a5 ?l5 ?c5 ?k5 ?a6 ?l6 ?c6 ?k6 ?a7 ?l7 ?c7 ?k7 ?a8 ?l8 ?c8 ?k8 ?a9 ?l9 ?c9 ?k9 ?a10 ?l10 ?c10 ?k10 ?a11 ?l11 ?c11 ?k11 ?a12 ?l12 ?c12 ?k12 ?a13 ?l13 ?c13 ?k13 ?a14 ?l14 ?c14 ?k14 ?a15 ?l15 ?c15 ?k15 ?a16 ?l16 ?c16 ?k16 ?a17 ?l17 ?c17 ?k17 ?a18 ?l18 ?c18 ?k18 ?a19 ?l19 ?c19 ?k19 ?a20 ?l20 ?c20 ?k20 ?a21 ?l21 ?c21 ?k21 ?a22 ?l22 ?c22 ?k22 ?a23 ?l23 ?c23 ?k23 ?a24 ?l24 ?c24 ?k24 ?a25 ?l25 ?c25 ?k25 ?a26 ?l26 ?c26 ?k26 ?a27 ?l27 ?c27 ?k27 ?a28 ?l28 ?c28 ?k28 ?z0 ?z1 ?z2 ?z3 ?z4 ?z5 ?z6 ?z7 ?z8 ?z9 ?z10 ?z11 ?y0 ?xgx_InvalidOperator ?xxL_InvalidOperator ?xhb_InvalidOperator ?xsa_InvalidOperator ?xga_InvalidOperator ?xgg_InvalidOperator ?xnb_InvalidOperator ?xai_InvalidOperator ?xkC_InvalidOperator ?xeC_InvalidOperator ?xvC_InvalidOperator ?xtC_InvalidOperator ?xhC_InvalidOperator ?xiC_InvalidOperator ?xca_InvalidOperator ?xcm_InvalidOperator ?xlI ?xcI ?xlc ?xhv ?xhf ?xlo ?xiT ?xty ?xnu ?xop ?xtp ?xcn ?xct ?xsT_InvalidOperator ?xku_InvalidOperator ?xe_InvalidOperator_InvalidOperator
    (case a0 => k_is); (case l0 => k_is); (case c0 => k_is); (case k0 => k_is); (case a1 => k_is); (case l1 => k_is); (case c1 => k_is); (case k1 => k_is); (case a2 => k_is); (case l2 => k_is); (case c2 => k_is); (case k2 => k_is); (case a3 => k_is); (case l3 => k_is); (case c3 => k_is); (case k3 => k_is); (case a4 => k_is); (case l4 => k_is); (case c4 => k_is); (case k4 => k_is); (case a5 => k_is); (case l5 => k_is); (case c5 => k_is); (case k5 => k_is); (case a6 => k_is); (case l6 => k_is); (case c6 => k_is); (case k6 => k_is); (case a7 => k_is); (case l7 => k_is); (case c7 => k_is); (case k7 => k_is); (case a8 => k_is); (case l8 => k_is); (case c8 => k_is); (case k8 => k_is); (case a9 => k_is); (case l9 => k_is); (case c9 => k_is); (case k9 => k_is); (case a10 => k_is); (case l10 => k_is); (case c10 => k_is); (case k10 => k_is); (case a11 => k_is); (case l11 => k_is); (case c11 => k_is); (case k11 => k_is); (case a12 => k_is); (case l12 => k_is); (case c12 => k_is); (case k12 => k_is); (case a13 => k_is); (case l13 => k_is); (case c13 => k_is); (case k13 => k_is); (case a14 => k_is); (case l14 => k_is); (case c14 => k_is); (case k14 => k_is); (case a15 => k_is); (case l15 => k_is); (case c15 => k_is); (case k15 => k_is); (case a16 => k_is); (case l16 => k_is); (case c16 => k_is); (case k16 => k_is); (case a17 => k_is); (case l17 => k_is); (case c17 => k_is); (case k17 => k_is); (case a18 => k_is); (case l18 => k_is); (case c18 => k_is); (case k18 => k_is); (case a19 => k_is); (case l19 => k_is); (case c19 => k_is); (case k19 => k_is); (case a20 => k_is); (case l20 => k_is); (case c20 => k_is); (case k20 => k_is); (case a21 => k_is); (case l21 => k_is); (case c21 => k_is); (case k21 => k_is); (case a22 => k_is); (case l22 => k_is); (case c22 => k_is); (case k22 => k_is); (case a23 => k_is); (case l23 => k_is); (case c23 => k_is); (case k23 => k_is); (case a24 => k_is); (case l24 => k_is); (case c24 => k_is); (case k24 => k_is); (case a25 => k_is); (case l25 => k_is); (case c25 => k_is); (case k25 => k_is); (case a26 => k_is); (case l26 => k_is); (case c26 => k_is); (case k26 => k_is); (case a27 => k_is); (case l27 => k_is); (case c27 => k_is); (case k27 => k_is); (case a28 => k_is); (case l28 => k_is); (case c28 => k_is); (case k28 => k_is); (case z0 => k_is); (case z1 => k_is); (case z2 => k_is); (case z3 => k_is); (case z4 => k_is); (case z5 => k_is); (case z6 => k_is); (case z7 => k_is); (case z8 => k_is); (case z9 => k_is); (case z10 => k_is); (case z11 => k_is); (case y0 => k_is); (case xgx_InvalidOperator => k_is); (case xxL_InvalidOperator => k_is); (case xhb_InvalidOperator => first | rfl | decide +kernel); (case xsa_InvalidOperator => k_is); (case xga_InvalidOperator => k_is); (case xgg_InvalidOperator => k_is); (case xnb_InvalidOperator => k_is); (case xai_InvalidOperator => k_is); (case xkC_InvalidOperator => k_is); (case xeC_InvalidOperator => k_is); (case xvC_InvalidOperator => k_is); (case xtC_InvalidOperator => k_is); (case xhC_InvalidOperator => k_is); (case xiC_InvalidOperator => k_is); (case xca_InvalidOperator => k_is); (case xcm_InvalidOperator => k_is); (case xlI => k_is); (case xcI => k_is); (case xlc => k_is); (case xhv => first | rfl | kernel_rfl); (case xhf => first | rfl | decide +kernel); (case xlo => k_is); (case xiT => k_is); (case xty => k_is); (case xnu => k_is); (case xop => k_is); (case xtp => first | rfl | decide +kernel); (case xcn => k_is); (case xct => k_is); (case xsT_InvalidOperator => k_is); (case xku_InvalidOperator => ks_is); (case xe_InvalidOperator_InvalidOperator => first | rfl | k_is)
