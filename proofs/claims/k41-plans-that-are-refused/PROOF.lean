import PyProof.Rows.All
import Wide.All
import OpenK.AllK
import Wide.FinOn
import KE.SortData
import HandS.ForMost
import HandS.Wide
import HandS.IsInst
import HandS.TupAny
import KE.KDictKeyed
import KE.LtData
import HandS.TupLe
import PyProof.P3Eq
import HandS.Deep
import KE.GoesEnum
import HandS.Iter
import HandS.Dict
import HandS.SortInts
import HandS.Ends
import PyProof.ReprRoads
import PyProof.ReprLen
import HandS.Rev
import KE.KDictSum
import KE.KDictCopyH
import HandS.Style
import HandS.TryOnly
import HandS.GenList
import HandS.SetBool
import HandS.Strs
import PyProof.FString5
import HandS.DictEq
import KE.KExcSuper
import HandS.ForExc
import HandS.TryMany
import HandS.ExcInit
import HandS.ExcOwn
import HandS.ExcSuper
import HandS.ExcIs
import KE.KExcIs
import KE.KIsAll
import HandS.Zip0
import HandS.FStr
import KE.KEqDict
import HandS.SuiteRaise
import HandS.TupMul
import PySem.Challenge.RW_tideweir_k41_plans_that_are_refused
set_option Elab.async false
set_option linter.all false
set_option maxRecDepth 100000
set_option maxHeartbeats 1000000
namespace Dn
open PySem PySem.Spec PyProof.Rows L2
abbrev D := PyData
/-- what is written, the program, the world -/
structure Kx where
  K : PySem.W.Frag
  P : Program
  w : World
instance : Coe Kx PySem.W.Frag := ⟨Kx.K⟩
abbrev cxK (X : Cx) : Kx := ⟨X.K, X.prog, X.w⟩
/-- what a slot holds: a datum that stands for good, or a list of one's own (fixed: the def's parameter) -/
inductive Cell where
  | val (d : D)
  | own (fixed : Bool) (d : D)
abbrev Env := List (Option Cell)
abbrev Md (α : Type) := Env → Option (α × Env)
/-- a key of a dict as a datum -/
def keyD : Key → D
  | .inl i => .int i
  | .inr x => .str x
mutual
/-- a datum as a key within tuples -/
def nkOf : D → Option NestedKey
  | .none => some .none
  | .int i => some (.num i)
  | .str x => some (.text x)
  | .tuple xs => (nkAll xs).bind fun ks => some (.tup ks)
  | _ => none
def nkAll : List D → Option (List NestedKey)
  | [] => some []
  | x :: xs => (nkOf x).bind fun k => (nkAll xs).bind fun ks => some (k :: ks)
end
/-- .. of a depth that a dict's key may have -/
def nkD (d : D) : Option NestedKey := (nkOf d).bind fun k => if k.depth ≤ 8 ∧ d.canLay0 = true then some k else none
/-- a dict whose keys are tuples: its one object -/
def dicO (K : Kx) (a : Addr) (xs : List (NestedKey × Addr × V)) : HO := .ext fun h => (a == sysModules) = false ∧ ∃ ys : List (NestedKey × Addr × Value), Paired (fun (p : NestedKey × Addr × V) (q : NestedKey × Addr × Value) => p.1 = q.1 ∧ p.2.1 = q.2.1 ∧ RelV p.2.2 q.2.2) xs ys ∧
  ∃ o es ep, h.get? a = some o ∧ o.ExactDict ∧ o.data = .dict es ep ∧ es.toList = ys.map (entryOfKey (nestedKind K.P K.w)) ∧ (ys.map (·.1)).Nodup
mutual
/-- v stands for the datum d -/
inductive Rp (K : Kx) (H : Hp) : V → D → Prop
  | non : Rp K H .non .none
  | bl (b : Bool) : Rp K H (.bl b) (.bool b)
  | int (i : Int) : Rp K H (.int i) (.int i)
  | str (x : Str) : Rp K H (.str x) (.str x)
  | lst {a : Addr} {vs : List V} {es : List D} (hs : SqL K H a vs) (hr : RpAll K H vs es) : Rp K H (.ref a) (.list es)
  | tup {a : Addr} {vs : List V} {es : List D} (hs : SqT K H a vs) (hr : RpAll K H vs es) : Rp K H (.ref a) (.tuple es)
  | dic {a : Addr} {ob : Obj} {ks : List (Key × V)} {es : List (D × D)} (hs : H a = some (.frz ob (.dK ks))) (hr : RpKV K H ks es) (hne : es ≠ []) : Rp K H (.ref a) (.dict es)
  | dicE {a : Addr} {ob : Obj} (hs : H a = some (.frz ob (.dK []))) : Rp K H (.ref a) (.dict [(.none, .none)])
  | dicN {a : Addr} {xs : List (NestedKey × Addr × V)} {es : List (D × D)} (hs : H a = some (dicO K a xs)) (hr : RpN K H xs es) : Rp K H (.ref a) (.dict es)
inductive RpAll (K : Kx) (H : Hp) : List V → List D → Prop
  | nil : RpAll K H [] []
  | cons {v : V} {vs : List V} {d : D} {es : List D} (h1 : Rp K H v d) (h2 : RpAll K H vs es) : RpAll K H (v :: vs) (d :: es)
inductive RpKV (K : Kx) (H : Hp) : List (Key × V) → List (D × D) → Prop
  | nil : RpKV K H [] []
  | cons {k : Key} {v : V} {ks : List (Key × V)} {d : D} {es : List (D × D)} (h1 : Rp K H v d) (h2 : RpKV K H ks es) : RpKV K H ((k, v) :: ks) ((keyD k, d) :: es)
inductive RpN (K : Kx) (H : Hp) : List (NestedKey × Addr × V) → List (D × D) → Prop
  | nil : RpN K H [] []
  | cons {k : NestedKey} {ka : Addr} {x : V} {dk dv : D} {xs : List (NestedKey × Addr × V)} {es : List (D × D)} (hk : nkD dk = some k) (h1 : Rp K H (.ref ka) dk) (h2 : Rp K H x dv) (h3 : RpN K H xs es) : RpN K H ((k, ka, x) :: xs) ((dk, dv) :: es)
end
mutual
theorem rp_dp {K : Kx} {H : Hp} : ∀ {d : D} {v : V}, Rp K H v d → d.canLay0 = true → Dp K H v d
  | .none, _, h, _ => by cases h; exact .non
  | .bool _, _, h, _ => by cases h; exact .bl _
  | .int _, _, h, _ => by cases h; exact .int _
  | .str _, _, h, _ => by cases h; exact .str _
  | .list es, _, h, c => by
    cases h with
    | lst hs hr => exact .lst hs (rpAll_dp hr (by simpa [PyData.canLay0] using c))
  | .tuple es, _, h, c => by
    cases h with
    | tup hs hr => exact .tup hs (rpAll_dp hr (by simpa [PyData.canLay0] using c))
  | .dict _, _, _, c => by simp [PyData.canLay0] at c
theorem rpAll_dp {K : Kx} {H : Hp} : ∀ {ds : List D} {vs : List V}, RpAll K H vs ds → PyData.canLayAll0 ds = true → DpAll K H vs ds
  | [], _, h, _ => by cases h; exact .nil
  | d :: ds, _, h, c => by
    have c' : d.canLay0 = true ∧ PyData.canLayAll0 ds = true := by simpa [PyData.canLayAll0] using c
    cases h with
    | cons h1 h2 => exact .cons (rp_dp h1 c'.1) (rpAll_dp h2 c'.2)
end
theorem seqT_same {K : Kx} {H H' : Hp} {a : Addr} {xs : List V} (e : Same H H') (h : SqT K H a xs) : SqT K H' a xs := by
  rcases h with (h | ⟨o, h⟩) | h
  · exact .inl (.inl (e _ _ h))
  · exact .inl (.inr ⟨o, e _ _ h⟩)
  · exact .inr h
mutual
theorem dp_mono {K : Kx} {H H' : Hp} (e : Same H H') : ∀ (d : D) (v : V), Rp K H v d → Rp K H' v d
  | .none, _, h => by cases h; exact .non
  | .bool _, _, h => by cases h; exact .bl _
  | .int _, _, h => by cases h; exact .int _
  | .str _, _, h => by cases h; exact .str _
  | .list ds, _, h => by
    cases h with
    | lst hs ha => exact .lst (e.seq hs) (dpAll_mono e ds _ ha)
  | .tuple ds, _, h => by
    cases h with
    | tup hs ha => exact .tup (seqT_same e hs) (dpAll_mono e ds _ ha)
  | .dict es, _, h => by
    cases h with
    | dic hs hr hne => exact .dic (e _ _ hs) (dpKV_mono e es _ hr) hne
    | dicE hs => exact .dicE (e _ _ hs)
    | dicN hs hr => exact .dicN (e _ _ hs) (dpN_mono e es _ hr)
theorem dpAll_mono {K : Kx} {H H' : Hp} (e : Same H H') : ∀ (ds : List D) (vs : List V), RpAll K H vs ds → RpAll K H' vs ds
  | [], _, h => by cases h; exact .nil
  | d :: ds, _, h => by
    cases h with
    | cons h1 h2 => exact .cons (dp_mono e d _ h1) (dpAll_mono e ds _ h2)
theorem dpKV_mono {K : Kx} {H H' : Hp} (e : Same H H') : ∀ (ds : List (D × D)) (vs : List (Key × V)), RpKV K H vs ds → RpKV K H' vs ds
  | [], _, h => by cases h; exact .nil
  | (k, d) :: ds, _, h => by
    cases h with
    | cons h1 h2 => exact .cons (dp_mono e d _ h1) (dpKV_mono e ds _ h2)
theorem dpN_mono {K : Kx} {H H' : Hp} (e : Same H H') : ∀ (ds : List (D × D)) (xs : List (NestedKey × Addr × V)), RpN K H xs ds → RpN K H' xs ds
  | [], _, h => by cases h; exact .nil
  | (k, d) :: ds, _, h => by
    cases h with
    | cons h0 h1 h2 h3 => exact .cons h0 (dp_mono e k _ h1) (dp_mono e d _ h2) (dpN_mono e ds _ h3)
end
theorem da_len {K : Kx} {H : Hp} : ∀ {vs : List V} {ds : List D}, RpAll K H vs ds → vs.length = ds.length
  | _, _, .nil => rfl
  | _, _, .cons _ t => congrArg (· + 1) (da_len t)
theorem da_at {K : Kx} {H : Hp} : ∀ {vs : List V} {ds : List D} {i : Nat} {d : D}, RpAll K H vs ds → ds[i]? = some d → ∃ v, vs[i]? = some v ∧ Rp K H v d
  | _, _, i, v, .nil, e => by simp at e
  | _, _, 0, v, .cons h _, e => by
    have q := Option.some.inj e
    subst q
    exact ⟨_, rfl, h⟩
  | _, _, i + 1, v, .cons _ t, e => da_at (i := i) t e
theorem da_app {K : Kx} {H : Hp} : ∀ {vs ws : List V} {ds es : List D}, RpAll K H vs ds → RpAll K H ws es → RpAll K H (vs ++ ws) (ds ++ es)
  | _, _, _, _, .nil, h => h
  | _, _, _, _, .cons h t, q => .cons h (da_app t q)
theorem da_drop {K : Kx} {H : Hp} : ∀ {vs : List V} {ds : List D} (n : Nat), RpAll K H vs ds → RpAll K H (vs.drop n) (ds.drop n)
  | _, _, 0, h => h
  | _, _, _ + 1, .nil => .nil
  | _, _, n + 1, .cons _ t => da_drop n t
theorem da_take {K : Kx} {H : Hp} : ∀ {vs : List V} {ds : List D} (n : Nat), RpAll K H vs ds → RpAll K H (vs.take n) (ds.take n)
  | _, _, 0, _ => .nil
  | _, _, _ + 1, .nil => .nil
  | _, _, n + 1, .cons h t => .cons h (da_take n t)
theorem da_ints {K : Kx} {H : Hp} : ∀ ns : List Int, RpAll K H (ns.map V.int) (ns.map PyData.int)
  | [] => .nil
  | n :: ns => .cons (.int n) (da_ints ns)
/-- a list of one's own at a: it isn't among what stands for good -/
def OwnB (K : Kx) (F H : Hp) (a : Addr) (d : D) : Prop := (∃ xs ds, d = .list ds ∧ H a = some (.lst xs) ∧ RpAll K F xs ds) ∨ (∃ xs es, d = .dict es ∧ H a = some (dicO K a xs) ∧ RpN K F xs es) ∨ (∃ ks es, d = .tuple [.dict es] ∧ H a = some (.dK ks) ∧ RpKV K F ks es)
/-- no dict with text keys of one's own (these bear a tuple around them) -/
def notT : D → Bool
  | .tuple _ => false
  | _ => true
def OwnAt (K : Kx) (F H : Hp) (a : Addr) (d : D) : Prop := F a = none ∧ OwnB K F H a d
theorem OwnAt.there {K : Kx} {F H : Hp} {a : Addr} {d : D} (h : OwnAt K F H a d) : ∃ o, H a = some o := by
  rcases h.2 with ⟨_, _, _, e, _⟩ | ⟨_, _, _, e, _⟩ | ⟨_, _, _, e, _⟩ <;> exact ⟨_, e⟩
theorem OwnB.mono {K : Kx} {F F' H H' : Hp} {a : Addr} {d : D} (h : OwnB K F H a d) (f : Same F F') (e : ∀ o, H a = some o → H' a = some o) : OwnB K F' H' a d := by
  rcases h with ⟨xs, ds, e1, e2, r⟩ | ⟨xs, es, e1, e2, r⟩ | ⟨ks, es, e1, e2, r⟩
  · exact .inl ⟨xs, ds, e1, e _ e2, dpAll_mono f _ _ r⟩
  · exact .inr (.inl ⟨xs, es, e1, e _ e2, dpN_mono f _ _ r⟩)
  · exact .inr (.inr ⟨ks, es, e1, e _ e2, dpKV_mono f _ _ r⟩)
/-- .. a list, or a dict with tuple keys -/
def OwnN (K : Kx) (F H : Hp) (a : Addr) (d : D) : Prop := OwnAt K F H a d ∧ notT d = true
def CellOk (K : Kx) (F H : Hp) (x : Option (Option V)) : Cell → Prop
  | .val d => ∃ v, x = some (some v) ∧ Rp K F v d
  | .own _ d => ∃ a, x = some (some (.ref a)) ∧ OwnAt K F H a d
def Owns (σ : L2.St) (ρ : Env) (b : Addr) : Prop := ∃ (i : Nat) (f : Bool) (d : D), ρ[i]? = some (some (.own f d)) ∧ σ[i]? = some (some (.ref b))
/-- slots and heap bear the data environment; F is what stands for good -/
structure St (K : Kx) (F H : Hp) (σ : L2.St) (ρ : Env) : Prop where
  sub : Same F H
  len : ρ.length = σ.length
  cell : ∀ (i : Nat) (c : Cell), ρ[i]? = some (some c) → CellOk K F H σ[i]? c
  dist : ∀ (i j : Nat) (f g : Bool) (d e : D) (a : Addr), ρ[i]? = some (some (.own f d)) → ρ[j]? = some (some (.own g e)) → σ[i]? = some (some (.ref a)) → σ[j]? = some (some (.ref a)) → i = j
theorem St.free {K : Kx} {F H : Hp} {σ : L2.St} {ρ : Env} (s : St K F H σ ρ) {b : Addr} (o : Owns σ ρ b) : F b = none ∧ ∃ u, H b = some u := by
  obtain ⟨i, f, d, e, e2⟩ := o
  obtain ⟨a, e3, h⟩ := s.cell i _ e
  rw [e2] at e3
  cases e3
  exact ⟨h.1, h.there⟩
/-- from one state to another: what stood, but one's own, stands -/
structure Stp (F : Hp) (σ : L2.St) (ρ : Env) (H : Hp) (F' : Hp) (σ' : L2.St) (ρ' : Env) (H' : Hp) : Prop where
  ff : Same F F'
  keep : ∀ b o, H b = some o → ¬ Owns σ ρ b → H' b = some o ∧ F' b = F b
  fresh : ∀ b, Owns σ' ρ' b → Owns σ ρ b ∨ H b = none
  fix : ∀ (i : Nat) (d : D), ρ[i]? = some (some (.own true d)) → σ'[i]? = σ[i]? ∧ ∃ d', ρ'[i]? = some (some (.own true d'))
  dom : ∀ b o, H b = some o → ∃ o', H' b = some o'
theorem Stp.refl {F : Hp} {σ : L2.St} {ρ : Env} {H : Hp} : Stp F σ ρ H F σ ρ H := ⟨Same.refl _, fun _ _ h _ => ⟨h, rfl⟩, fun _ h => .inl h, fun _ d h => ⟨rfl, d, h⟩, fun _ o h => ⟨o, h⟩⟩
theorem Stp.trans {F F1 F2 : Hp} {σ σ1 σ2 : L2.St} {ρ ρ1 ρ2 : Env} {H H1 H2 : Hp} (a : Stp F σ ρ H F1 σ1 ρ1 H1) (b : Stp F1 σ1 ρ1 H1 F2 σ2 ρ2 H2) : Stp F σ ρ H F2 σ2 ρ2 H2 where
  ff := a.ff.trans b.ff
  keep := fun c o h n => by
    obtain ⟨h1, f1⟩ := a.keep c o h n
    have n1 : ¬ Owns σ1 ρ1 c := fun z => by
      rcases a.fresh c z with y | y
      · exact n y
      · rw [h] at y; cases y
    obtain ⟨h2, f2⟩ := b.keep c o h1 n1
    exact ⟨h2, f2.trans f1⟩
  fresh := fun c z => by
    rcases b.fresh c z with y | y
    · exact a.fresh c y
    · cases q : H c with
      | none => exact .inr rfl
      | some o =>
        by_cases n : Owns σ ρ c
        · exact .inl n
        · rw [(a.keep c o q n).1] at y; cases y
  fix := fun i d h => by
    obtain ⟨e1, d1, h1⟩ := a.fix i d h
    obtain ⟨e2, d2, h2⟩ := b.fix i d1 h1
    exact ⟨e2.trans e1, d2, h2⟩
  dom := fun c o h => by
    obtain ⟨o1, h1⟩ := a.dom c o h
    exact b.dom c o1 h1
theorem Stp.none {F F1 : Hp} {σ σ1 : L2.St} {ρ ρ1 : Env} {H H1 : Hp} (a : Stp F σ ρ H F1 σ1 ρ1 H1) {p : Addr} (h : H1 p = none) : H p = none := by
  cases q : H p with
  | none => rfl
  | some o =>
    obtain ⟨o', e⟩ := a.dom p o q
    rw [h] at e
    cases e
/-- new things, and nothing else -/
structure Grow (F H F' H' : Hp) : Prop where
  ff : Same F F'
  hh : Same H H'
  fh : Same F' H'
  new : ∀ b o, H b = some o → F' b = F b
theorem Grow.refl {F H : Hp} (s : Same F H) : Grow F H F H := ⟨Same.refl _, Same.refl _, s, fun _ _ _ => rfl⟩
theorem Grow.trans {F H F1 H1 F2 H2 : Hp} (a : Grow F H F1 H1) (b : Grow F1 H1 F2 H2) : Grow F H F2 H2 :=
  ⟨a.ff.trans b.ff, a.hh.trans b.hh, b.fh, fun c o h => (b.new c o (a.hh c o h)).trans (a.new c o h)⟩
theorem same_new {H : Hp} {p : Addr} {o : HO} (h : H p = none) : Same H (upd H p o) := fun b x e => by
  rw [upd_ne (ne_of_none e h)]
  exact e
theorem same_upd2 {F H : Hp} {p : Addr} {o : HO} (s : Same F H) : Same (upd F p o) (upd H p o) := fun b x e => by
  by_cases h : b = p
  · subst h
    rw [upd_same] at e ⊢
    exact e
  · rw [upd_ne h] at e ⊢
    exact s b x e
theorem none_sub {F H : Hp} {p : Addr} (s : Same F H) (h : H p = none) : F p = none := s.free h
/-- a new thing that stands for good -/
theorem Grow.val {F H : Hp} {p : Addr} {o : HO} (s : Same F H) (h : H p = none) : Grow F H (upd F p o) (upd H p o) :=
  ⟨same_new (none_sub s h), same_new h, same_upd2 s, fun b x e => upd_ne (ne_of_none e h)⟩
/-- a new thing of one's own -/
theorem Grow.own {F H : Hp} {p : Addr} {o : HO} (s : Same F H) (h : H p = none) : Grow F H F (upd H p o) :=
  ⟨Same.refl _, same_new h, s.trans (same_new h), fun _ _ _ => rfl⟩
theorem OwnAt.grow {K : Kx} {F H F' H' : Hp} {a : Addr} {d : D} (g : Grow F H F' H') (h : OwnAt K F H a d) : OwnAt K F' H' a d := by
  obtain ⟨o, ho⟩ := h.there
  exact ⟨(g.new a _ ho).trans h.1, h.2.mono g.ff fun o e => g.hh _ _ e⟩
theorem St.grow {K : Kx} {F H F' H' : Hp} {σ : L2.St} {ρ : Env} (s : St K F H σ ρ) (g : Grow F H F' H') : St K F' H' σ ρ where
  sub := g.fh
  len := s.len
  cell := fun i c e => by
    have q := s.cell i c e
    cases c with
    | val d =>
      obtain ⟨v, e1, r⟩ := q
      exact ⟨v, e1, dp_mono g.ff _ _ r⟩
    | own f d =>
      obtain ⟨a, e1, r⟩ := q
      exact ⟨a, e1, r.grow g⟩
  dist := s.dist
theorem Grow.stp {F H F' H' : Hp} (g : Grow F H F' H') (σ : L2.St) (ρ : Env) : Stp F σ ρ H F' σ ρ H' :=
  ⟨g.ff, fun b o h _ => ⟨g.hh b o h, g.new b o h⟩, fun _ h => .inl h, fun _ d h => ⟨rfl, d, h⟩, fun b o h => ⟨o, g.hh b o h⟩⟩
section
variable (K : Kx)
def tD (g : Md D) : TE := fun σ H Q => ∃ (F : Hp) (ρ : Env) (d : D) (ρ' : Env), St K F H σ ρ ∧ g ρ = some (d, ρ') ∧
  ∀ v F' H', Stp F σ ρ H F' σ ρ' H' → St K F' H' σ ρ' → Rp K F' v d → Q v H'
/-- the answer is a new list of one's own -/
def tF (g : Md D) : TE := fun σ H Q => ∃ (F : Hp) (ρ : Env) (d : D) (ρ' : Env), St K F H σ ρ ∧ g ρ = some (d, ρ') ∧
  ∀ a F' H', Stp F σ ρ H F' σ ρ' H' → St K F' H' σ ρ' → OwnN K F' H' a d → ¬ Owns σ ρ' a → H a = none → Q (.ref a) H'
def tDT (g : Md Bool) : TT := fun σ H Q => ∃ (F : Hp) (ρ : Env) (d : Bool) (ρ' : Env), St K F H σ ρ ∧ g ρ = some (d, ρ') ∧
  ∀ F' H', Stp F σ ρ H F' σ ρ' H' → St K F' H' σ ρ' → Q d H'
def tDA (g : Md (List D)) : TA := fun σ H Q => ∃ (F : Hp) (ρ : Env) (ds : List D) (ρ' : Env), St K F H σ ρ ∧ g ρ = some (ds, ρ') ∧
  ∀ vs F' H', Stp F σ ρ H F' σ ρ' H' → St K F' H' σ ρ' → RpAll K F' vs ds → Q vs H'
inductive Fl where
  | nx | ret (d : D) | rof (d : D) | brk | cnt
abbrev Sd := Env → Option (Fl × Env)
def FlOk (E : Ends) (H0 F' : Hp) (σ' : L2.St) (H' : Hp) : Fl → Prop
  | .nx => E.nx σ' H'
  | .ret d => ∀ v, Rp K F' v d → E.rt v H'
  | .rof d => ∀ a, OwnN K F' H' a d → H0 a = none → E.rt (.ref a) H'
  | .brk => E.bk σ' H'
  | .cnt => E.ct σ' H'
def tDS (g : Sd) : TS := fun E σ H => ∃ (F : Hp) (ρ : Env) (f : Fl) (ρ' : Env), St K F H σ ρ ∧ g ρ = some (f, ρ') ∧
  ∀ σ' F' H', Stp F σ ρ H F' σ' ρ' H' → St K F' H' σ' ρ' → FlOk K E H F' σ' H' f
/-- a target's reading: the datum is stored -/
def tDG (is : List Nat) (g : D → Env → Option Env) : TG := fun v σ H Q => ∃ (F : Hp) (ρ : Env) (d : D) (ρ' : Env), St K F H σ ρ ∧ Rp K F v d ∧ g d ρ = some ρ' ∧
  ∀ σ' F' H', Stp F σ ρ H F' σ' ρ' H' → St K F' H' σ' ρ' → (σ'.length = σ.length ∧ ∀ j, j ∉ is → σ'[j]? = σ[j]?) → Q σ' H'
/-- operators: the answer from the data -/
def rP2 (f : D → D → Option D) : R2 := fun x y H Q => ∃ (F : Hp) (d e r : D), Same F H ∧ Rp K F x d ∧ Rp K F y e ∧ f d e = some r ∧ ∀ v F' H', Grow F H F' H' → Rp K F' v r → Q v H'
def rP1 (f : D → Option D) : V → Hp → VK → Prop := fun x H Q => ∃ (F : Hp) (d r : D), Same F H ∧ Rp K F x d ∧ f d = some r ∧ ∀ v F' H', Grow F H F' H' → Rp K F' v r → Q v H'
def rPn (f : List D → Option D) : List V → Hp → VK → Prop := fun xs H Q => ∃ (F : Hp) (ds : List D) (r : D), Same F H ∧ RpAll K F xs ds ∧ f ds = some r ∧ ∀ v F' H', Grow F H F' H' → Rp K F' v r → Q v H'
/-- .. a new list -/
def rFn (f : List D → Option D) : List V → Hp → VK → Prop := fun xs H Q => ∃ (F : Hp) (ds : List D) (r : D), Same F H ∧ RpAll K F xs ds ∧ f ds = some r ∧ ∀ a F' H', Grow F H F' H' → OwnN K F' H' a r → H a = none → Q (.ref a) H'
end
abbrev DE (X : Cx) (e : Expr) (g : Md D) : Prop := PE X e (tD (cxK X) g)
abbrev DF (X : Cx) (e : Expr) (g : Md D) : Prop := PE X e (tF (cxK X) g)
abbrev DT (X : Cx) (e : Expr) (g : Md Bool) : Prop := PT X e (tDT (cxK X) g)
abbrev DW (X : Cx) (e : Expr) (g : Md Bool) : Prop := PW X e (tDT (cxK X) g)
abbrev DA (X : Cx) (es : List Expr) (g : Md (List D)) : Prop := PA X es (tDA (cxK X) g)
abbrev DS (X : Cx) (st : Stmt) (g : Sd) : Prop := PS X st (tDS (cxK X) g)
abbrev DSs (X : Cx) (st : List Stmt) (g : Sd) : Prop := PSs X st (tDS (cxK X) g)
abbrev DG (X : Cx) (e : Expr) (is : List Nat) (g : D → Env → Option Env) : Prop := PG X e (tDG (cxK X) is g)
theorem pe_imp {X : Cx} {e : Expr} {t t' : TE} (h : PE X e t) (i : ∀ σ H Q, t' σ H Q → t σ H Q) : PE X e t' := ⟨fun pins s σ H Q I q => h.run pins s σ H Q I (i σ H Q q)⟩
theorem pt_imp {X : Cx} {e : Expr} {t t' : TT} (h : PT X e t) (i : ∀ σ H Q, t' σ H Q → t σ H Q) : PT X e t' := ⟨fun pins s σ H Q I q => h.run pins s σ H Q I (i σ H Q q)⟩
theorem pw_imp {X : Cx} {e : Expr} {t t' : TT} (h : PW X e t) (i : ∀ σ H Q, t' σ H Q → t σ H Q) : PW X e t' := ⟨fun wh pins s σ H Q I q => h.run wh pins s σ H Q I (i σ H Q q)⟩
theorem pa_imp {X : Cx} {e : List Expr} {t t' : TA} (h : PA X e t) (i : ∀ σ H Q, t' σ H Q → t σ H Q) : PA X e t' := ⟨fun pos pins s σ H Q I q => h.run pos pins s σ H Q I (i σ H Q q)⟩
theorem ps_imp {X : Cx} {e : Stmt} {t t' : TS} (h : PS X e t) (i : ∀ E σ H, t' E σ H → t E σ H) : PS X e t' := ⟨fun pins s σ H E I q => h.run pins s σ H E I (i E σ H q)⟩
theorem pss_imp {X : Cx} {e : List Stmt} {t t' : TS} (h : PSs X e t) (i : ∀ E σ H, t' E σ H → t E σ H) : PSs X e t' := ⟨fun pins s σ H E I q => h.run pins s σ H E I (i E σ H q)⟩
theorem pg_imp {X : Cx} {e : Expr} {t t' : TG} (h : PG X e t) (i : ∀ v σ H Q, t' v σ H Q → t v σ H Q) : PG X e t' := ⟨fun pins s σ H v u Q I r q => h.run pins s σ H v u Q I r (i v σ H Q q)⟩
end Dn
set_option maxHeartbeats 1000000
namespace Dn
open PySem PySem.Spec PyProof.Rows L2
def gC (d : D) : Md D := fun ρ => some (d, ρ)
def gVar (i : Nat) : Md D := fun ρ => match ρ[i]? with
  | some (some (.val d)) => some (d, ρ)
  | _ => none
def gFrz (i : Nat) : Md D := fun ρ => match ρ[i]? with
  | some (some (.val d)) => some (d, ρ)
  | some (some (.own false d)) => if notT d = true then some (d, ρ.set i (some (.val d))) else none
  | _ => none
def gBin (f : D → D → Option D) (ga gb : Md D) : Md D := fun ρ => (ga ρ).bind fun p => (gb p.2).bind fun q => (f p.1 q.1).bind fun r => some (r, q.2)
def gUn (f : D → Option D) (ga : Md D) : Md D := fun ρ => (ga ρ).bind fun p => (f p.1).bind fun r => some (r, p.2)
def bOf : D → Option Bool
  | .bool b => some b
  | _ => none
def gTst (g : Md D) : Md Bool := fun ρ => (g ρ).bind fun p => (bOf p.1).bind fun b => some (b, p.2)
def gChain (f f' : D → D → Option D) (ga gb gc : Md D) : Md D := fun ρ => (ga ρ).bind fun p => (gb p.2).bind fun q => (f p.1 q.1).bind fun r => (bOf r).bind fun b =>
  if b = true then (gc q.2).bind fun t => (f' q.1 t.1).bind fun r => some (r, t.2) else some (.bool false, q.2)
def gAnd (ga gb : Md Bool) : Md Bool := fun ρ => (ga ρ).bind fun p => if p.1 = true then gb p.2 else some (false, p.2)
def gOr (ga gb : Md Bool) : Md Bool := fun ρ => (ga ρ).bind fun p => if p.1 = true then some (true, p.2) else gb p.2
def gNot (ga : Md Bool) : Md Bool := fun ρ => (ga ρ).bind fun p => some (!p.1, p.2)
def gAndV (ga gb : Md D) : Md D := fun ρ => (ga ρ).bind fun p => (bOf p.1).bind fun b => if b = true then gb p.2 else some (.bool false, p.2)
def gOrV (ga gb : Md D) : Md D := fun ρ => (ga ρ).bind fun p => (bOf p.1).bind fun b => if b = true then some (.bool true, p.2) else gb p.2
def gNotV (ga : Md D) : Md D := fun ρ => (ga ρ).bind fun p => (bOf p.1).bind fun b => some (.bool (!b), p.2)
def gIfE (gc : Md Bool) (ga gb : Md D) : Md D := fun ρ => (gc ρ).bind fun p => if p.1 = true then ga p.2 else gb p.2
def gNil : Md (List D) := fun ρ => some ([], ρ)
def gCons (g : Md D) (gs : Md (List D)) : Md (List D) := fun ρ => (g ρ).bind fun p => (gs p.2).bind fun q => some (p.1 :: q.1, q.2)
def gApp (f : List D → Option D) (gs : Md (List D)) : Md D := fun ρ => (gs ρ).bind fun p => (f p.1).bind fun r => some (r, p.2)
section
variable {X : Cx} {a b c e : Expr} {es : List Expr} {pos : Pos}
theorem st_owned {K : Kx} {F H : Hp} {σ : L2.St} {ρ : Env} {i : Nat} {f : Bool} {d : D} (s : St K F H σ ρ) (e : ρ[i]? = some (some (.own f d))) : ∃ a, σ[i]? = some (some (.ref a)) ∧ OwnAt K F H a d ∧ Owns σ ρ a := by
  obtain ⟨a, e1, h⟩ := s.cell i _ e
  exact ⟨a, e1, h, i, f, d, e, e1⟩
theorem st_val {K : Kx} {F H : Hp} {σ : L2.St} {ρ : Env} {i : Nat} {d : D} (s : St K F H σ ρ) (e : ρ[i]? = some (some (.val d))) : ∃ v, σ[i]? = some (some v) ∧ Rp K F v d := s.cell i _ e
/-- a list of one's own comes to stand for good -/
theorem own_dp {K : Kx} {F H : Hp} {a : Addr} {d : D} (h : OwnN K F H a d) : ∃ o, H a = some o ∧ Same F (upd F a o) ∧ Rp K (upd F a o) (.ref a) d := by
  obtain ⟨⟨f, h⟩, hn⟩ := h
  rcases h with ⟨xs, ds, rfl, e, r⟩ | ⟨xs, es, rfl, e, r⟩ | ⟨xs, es, rfl, e, r⟩
  · exact ⟨_, e, same_new f, .lst (.inl (.inl upd_same)) (dpAll_mono (same_new f) _ _ r)⟩
  · exact ⟨_, e, same_new f, .dicN upd_same (dpN_mono (same_new f) _ _ r)⟩
  · cases hn
theorem sub_upd {F H : Hp} {a : Addr} {o : HO} (s : Same F H) (e : H a = some o) : Same (upd F a o) H := fun b x h => by
  by_cases q : b = a
  · subst q
    rw [upd_same] at h
    rw [e]
    exact h
  · rw [upd_ne q] at h
    exact s b x h
theorem own_keep {K : Kx} {F H : Hp} {a b : Addr} {d : D} {o : HO} (h : OwnAt K F H b d) (n : b ≠ a) (hF : F a = none) : OwnAt K (upd F a o) H b d := by
  exact ⟨(upd_ne n).trans h.1, h.2.mono (same_new hF) fun _ e => e⟩
theorem st_frz {K : Kx} {F H : Hp} {σ : L2.St} {ρ : Env} {a : Addr} {o : HO} (s : St K F H σ ρ) (hF : F a = none) (e : H a = some o) (n : ¬ Owns σ ρ a) : St K (upd F a o) H σ ρ where
  sub := sub_upd s.sub e
  len := s.len
  cell := fun i c h => by
    have q := s.cell i c h
    cases c with
    | val d =>
      obtain ⟨v, e1, r⟩ := q
      exact ⟨v, e1, dp_mono (same_new hF) _ _ r⟩
    | own f d =>
      obtain ⟨b, e1, r⟩ := q
      exact ⟨b, e1, own_keep r (fun z => n (by subst z; exact ⟨i, f, d, h, e1⟩)) hF⟩
  dist := s.dist
theorem get_set_self {α : Type} {l : List α} {i : Nat} {x y : α} (h : l[i]? = some y) : (l.set i x)[i]? = some x := List.getElem?_set_self (List.getElem?_eq_some_iff.mp h).1
theorem get_set_ne {α : Type} {l : List α} {i j : Nat} {x : α} (h : j ≠ i) : (l.set i x)[j]? = l[j]? := List.getElem?_set_ne (Ne.symm h)
theorem df_de {g : Md D} (h : DF X e g) : DE X e g := pe_imp h fun σ H Q q => by
  obtain ⟨F, ρ, d, ρ', s, eg, k⟩ := q
  refine ⟨F, ρ, d, ρ', s, eg, fun a F' H' st s' o n hn => ?_⟩
  obtain ⟨u, eu, sf, r⟩ := own_dp o
  refine k (.ref a) (upd F' a u) H' ⟨st.ff.trans sf, fun b x hb nb => ?_, st.fresh, st.fix, st.dom⟩ (st_frz s' o.1.1 eu n) r
  obtain ⟨h1, h2⟩ := st.keep b x hb nb
  exact ⟨h1, (upd_ne (ne_of_none hb hn)).trans h2⟩
theorem de_var (i : Nat) {x : Str} (hN : X.N[i]? = some x) (hv : Vis X.env.scope x) (hd : (x == ("__debug__" : Str)) = false := by decide) (hcd : (x == ("__classdict__" : Str)) = false := by decide) : DE X (.Name x pos) (gVar i) :=
  pe_imp (pe_var hN hv hd hcd) fun σ H Q q => by
    obtain ⟨F, ρ, d, ρ', s, eg, k⟩ := q
    unfold gVar at eg
    split at eg
    · rename_i d' h
      cases eg
      obtain ⟨v, e1, r⟩ := st_val s h
      exact ⟨v, e1, k v F H Stp.refl s r⟩
    · cases eg
theorem de_frz (i : Nat) {x : Str} (hN : X.N[i]? = some x) (hv : Vis X.env.scope x) (hd : (x == ("__debug__" : Str)) = false := by decide) (hcd : (x == ("__classdict__" : Str)) = false := by decide) : DE X (.Name x pos) (gFrz i) :=
  pe_imp (pe_var hN hv hd hcd) fun σ H Q q => by
    obtain ⟨F, ρ, d, ρ', s, eg, k⟩ := q
    unfold gFrz at eg
    split at eg
    · rename_i d' h
      cases eg
      obtain ⟨v, e1, r⟩ := st_val s h
      exact ⟨v, e1, k v F H Stp.refl s r⟩
    · rename_i d' h
      by_cases hnt : notT d' = true
      case neg =>
        rw [if_neg hnt] at eg
        cases eg
      rw [if_pos hnt] at eg
      cases eg
      obtain ⟨a, e1, r, ow⟩ := st_owned s h
      obtain ⟨u, eu, sf, rd⟩ := own_dp ⟨r, hnt⟩
      refine ⟨.ref a, e1, k (.ref a) (upd F a u) H ⟨sf, fun b o hb nb => ⟨hb, upd_ne fun z => nb (by subst z; exact ow)⟩, fun b hb => ?_, fun j dj hj => ?_, fun _ o h => ⟨o, h⟩⟩ ?_ rd⟩
      · obtain ⟨j, f, dj, h1, h2⟩ := hb
        by_cases z : j = i
        · subst z
          rw [get_set_self h] at h1
          cases h1
        · rw [get_set_ne z] at h1
          exact .inl ⟨j, f, dj, h1, h2⟩
      · have z : j ≠ i := fun z => by
          subst z
          rw [h] at hj
          cases hj
        exact ⟨rfl, dj, by rw [get_set_ne z]; exact hj⟩
      · refine ⟨sub_upd s.sub eu, by rw [List.length_set]; exact s.len, fun j c hj => ?_, fun j l f g dj dl b h1 h2 h3 h4 => ?_⟩
        · by_cases z : j = i
          · subst z
            rw [get_set_self h] at hj
            cases hj
            exact ⟨.ref a, e1, rd⟩
          · rw [get_set_ne z] at hj
            have q := s.cell j c hj
            cases c with
            | val dj =>
              obtain ⟨v, e2, r2⟩ := q
              exact ⟨v, e2, dp_mono sf _ _ r2⟩
            | own f dj =>
              obtain ⟨b, e2, r2⟩ := q
              exact ⟨b, e2, own_keep r2 (fun y => z (by subst y; exact s.dist j i f false dj _ _ hj h e2 e1)) r.1⟩
        · have z1 : j ≠ i := fun z => by subst z; rw [get_set_self h] at h1; cases h1
          have z2 : l ≠ i := fun z => by subst z; rw [get_set_self h] at h2; cases h2
          rw [get_set_ne z1] at h1
          rw [get_set_ne z2] at h2
          exact s.dist j l f g dj dl b h1 h2 h3 h4
    · cases eg
theorem de_const {t : TE} {d : D} {v : V} (h : PE X e (tC v)) (r : ∀ F, Rp (cxK X) F v d) : DE X e (gC d) := pe_imp h fun σ H Q q => by
  obtain ⟨F, ρ, d', ρ', s, eg, k⟩ := q
  cases eg
  exact k v F H Stp.refl s (r F)
theorem de_int {i : Int} {j : Nat} : DE X (.Constant (.int i) j pos) (gC (.int i)) := de_const (t := tC .non) pe_int fun _ => .int i
theorem de_bl {b : Bool} {j : Nat} : DE X (.Constant (.bool b) j pos) (gC (.bool b)) := de_const (t := tC .non) pe_bl fun _ => .bl b
theorem de_non {j : Nat} : DE X (.Constant .none j pos) (gC .none) := de_const (t := tC .non) pe_non fun _ => .non
theorem de_str {x : Str} {j : Nat} : DE X (.Constant (.str x) j pos) (gC (.str x)) := de_const (t := tC .non) pe_str fun _ => .str x
theorem bind_some {α β : Type} {o : Option α} {f : α → Option β} {r : β} (h : o.bind f = some r) : ∃ a, o = some a ∧ f a = some r := by
  cases o with
  | none => cases h
  | some a => exact ⟨a, rfl, h⟩
theorem dp_bl {K : Kx} {H : Hp} {v : V} {b : Bool} (h : Rp K H v (.bool b)) : v = .bl b := by cases h; rfl
theorem bOf_some {d : D} {b : Bool} (h : bOf d = some b) : d = .bool b := by
  cases d <;> simp [bOf] at h
  subst h
  rfl
theorem bin_q {r : R2} {f : D → D → Option D} {ga gb : Md D} (hr : r = rP2 (cxK X) f) {σ : L2.St} {H : Hp} {Q : VK} (q : tD (cxK X) (gBin f ga gb) σ H Q) : tOp r (tD (cxK X) ga) (tD (cxK X) gb) σ H Q := by
  subst hr
  obtain ⟨F, ρ, d, ρ', s, eg, k⟩ := q
  obtain ⟨⟨x, ρ1⟩, e1, eg⟩ := bind_some eg
  obtain ⟨⟨y, ρ2⟩, e2, eg⟩ := bind_some eg
  obtain ⟨z, e3, eg⟩ := bind_some eg
  cases eg
  exact ⟨F, ρ, x, ρ1, s, e1, fun v F1 H1 p1 s1 r1 => ⟨F1, ρ1, y, ρ2, s1, e2, fun u F2 H2 p2 s2 r2 => ⟨F2, x, y, _, s2.sub, dp_mono p2.ff _ _ r1, r2, e3, fun w F3 H3 gr rw' =>
    k w F3 H3 (p1.trans (p2.trans (gr.stp σ ρ2))) (s2.grow gr) rw'⟩⟩⟩
theorem de_bin {op : Operator} {f : D → D → Option D} {ga gb : Md D} (ho : OpR X (binaryOp op) (rP2 (cxK X) f)) (ha : DE X a ga) (hb : DE X b gb) : DE X (.BinOp a op b pos) (gBin f ga gb) :=
  pe_imp (pe_op ho ha hb) fun _ _ _ q => bin_q rfl q
theorem de_cmp {op : CmpOp} {f : D → D → Option D} {ga gb : Md D} (ho : OpR X (compareOp op) (rP2 (cxK X) f)) (ha : DE X a ga) (hb : DE X b gb) (hm : behindInMarks op b = false) : DE X (.Compare a [op] [b] pos) (gBin f ga gb) :=
  pe_imp (pe_cmpR ho ha hb hm) fun _ _ _ q => bin_q rfl q
theorem de_ix {f : D → D → Option D} {ga gb : Md D} (ho : IxR X (rP2 (cxK X) f)) (ha : DE X a ga) (hb : DE X b gb) (hs : PlainIx b) : DE X (.Subscript a b pos) (gBin f ga gb) :=
  pe_imp (pe_ix ho ha hb hs) fun _ _ _ q => bin_q rfl q
theorem de_un {op : UnaryOp} {f : D → Option D} {ga : Md D} (ho : UnR X (unaryOp op) (rP1 (cxK X) f)) (ha : DE X a ga) : DE X (.UnaryOp op a pos) (gUn f ga) :=
  pe_imp (pe_un ho ha) fun σ H Q q => by
    obtain ⟨F, ρ, d, ρ', s, eg, k⟩ := q
    obtain ⟨⟨x, ρ1⟩, e1, eg⟩ := bind_some eg
    obtain ⟨z, e3, eg⟩ := bind_some eg
    cases eg
    exact ⟨F, ρ, x, ρ1, s, e1, fun v F1 H1 p1 s1 r1 => ⟨F1, x, _, s1.sub, r1, e3, fun w F3 H3 gr rw' => k w F3 H3 (p1.trans (gr.stp σ ρ1)) (s1.grow gr) rw'⟩⟩
theorem tst_q {g : Md D} {σ : L2.St} {H : Hp} {Q : Bool → Hp → Prop} (q : tDT (cxK X) (gTst g) σ H Q) : tD (cxK X) g σ H (fun x H1 => ∃ k, x = .bl k ∧ Q k H1) := by
  obtain ⟨F, ρ, d, ρ', s, eg, k⟩ := q
  obtain ⟨⟨x, ρ1⟩, e1, eg⟩ := bind_some eg
  obtain ⟨z, e3, eg⟩ := bind_some eg
  cases eg
  refine ⟨F, ρ, x, _, s, e1, fun v F1 H1 p1 s1 r1 => ⟨d, ?_, k F1 H1 p1 s1⟩⟩
  have e : x = .bool d := bOf_some e3
  subst e
  exact dp_bl r1
theorem dt_cmp {op : CmpOp} {f : D → D → Option D} {ga gb : Md D} (ho : OpR X (compareOp op) (rP2 (cxK X) f)) (ha : DE X a ga) (hb : DE X b gb) (hm : behindInMarks op b = false) : DT X (.Compare a [op] [b] pos) (gTst (gBin f ga gb)) :=
  pt_imp (pt_cmpR ho ha hb hm) fun σ H Q q => bin_q rfl (tst_q q)
theorem chain_q {f f' : D → D → Option D} {ga gb gc : Md D} {σ : L2.St} {H : Hp} {Q : VK} (q : tD (cxK X) (gChain f f' ga gb gc) σ H Q) : tChain (rP2 (cxK X) f) (rP2 (cxK X) f') (tD (cxK X) ga) (tD (cxK X) gb) (tD (cxK X) gc) σ H Q := by
  obtain ⟨F, ρ, d, ρ', s, eg, k⟩ := q
  obtain ⟨⟨x, ρ1⟩, e1, eg⟩ := bind_some eg
  obtain ⟨⟨y, ρ2⟩, e2, eg⟩ := bind_some eg
  obtain ⟨z, e3, eg⟩ := bind_some eg
  obtain ⟨t, e4, eg4⟩ := bind_some eg
  clear eg
  have e5 : z = .bool t := bOf_some e4
  subst e5
  refine ⟨F, ρ, x, ρ1, s, e1, fun v F1 H1 p1 s1 r1 => ⟨F1, ρ1, y, ρ2, s1, e2, fun u F2 H2 p2 s2 r2 => ⟨F2, x, y, _, s2.sub, dp_mono p2.ff _ _ r1, r2, e3, fun w F3 H3 gr rw' => ⟨t, dp_bl rw', ?_⟩⟩⟩⟩
  have p3 := p1.trans (p2.trans (gr.stp σ ρ2))
  cases t with
  | true =>
    rw [if_pos rfl] at eg4 ⊢
    obtain ⟨⟨m, ρ3⟩, e6, eg5⟩ := bind_some eg4
    obtain ⟨n, e7, eg6⟩ := bind_some eg5
    cases eg6
    exact ⟨F3, ρ2, m, ρ3, s2.grow gr, e6, fun v4 F4 H4 p4 s4 r4 => ⟨F4, y, m, _, s4.sub, dp_mono (gr.ff.trans p4.ff) _ _ r2, r4, e7, fun v5 F5 H5 gr5 r5 =>
      k v5 F5 H5 (p3.trans (p4.trans (gr5.stp σ ρ3))) (s4.grow gr5) r5⟩⟩
  | false =>
    rw [if_neg Bool.false_ne_true] at eg4 ⊢
    cases eg4
    exact k (.bl false) F3 H3 p3 (s2.grow gr) (.bl false)
theorem dt_chain {op op' : CmpOp} {f f' : D → D → Option D} {ga gb gc : Md D} (ho : OpR X (compareOp op) (rP2 (cxK X) f)) (ho' : OpR X (compareOp op') (rP2 (cxK X) f')) (ha : DE X a ga) (hb : DE X b gb) (hc : DE X c gc) (hm : lastMarks [op, op'] [b, c] = false := by with_unfolding_all rfl) : DT X (.Compare a [op, op'] [b, c] pos) (gTst (gChain f f' ga gb gc)) :=
  pt_imp (pt_chain ho ho' ha hb hc hm) fun _ _ _ q => chain_q (tst_q q)
theorem dt_and {ga gb : Md Bool} {rest : List Expr} (ha : DT X a ga) (hb : DW X (.BoolOp .And (b :: rest) pos) gb) : DW X (.BoolOp .And (a :: b :: rest) pos) (gAnd ga gb) :=
  pw_imp (pw_and ha hb) fun σ H Q q => by
    obtain ⟨F, ρ, d, ρ', s, eg, k⟩ := q
    obtain ⟨⟨x, ρ1⟩, e1, eg⟩ := bind_some eg
    refine ⟨F, ρ, x, ρ1, s, e1, fun F1 H1 p1 s1 => ?_⟩
    cases x with
    | true => exact ⟨F1, ρ1, d, ρ', s1, eg, fun F2 H2 p2 s2 => k F2 H2 (p1.trans p2) s2⟩
    | false =>
      cases eg
      exact k F1 H1 p1 s1
theorem dt_or {ga gb : Md Bool} {rest : List Expr} (ha : DT X a ga) (hb : DW X (.BoolOp .Or (b :: rest) pos) gb) : DW X (.BoolOp .Or (a :: b :: rest) pos) (gOr ga gb) :=
  pw_imp (pw_or ha hb) fun σ H Q q => by
    obtain ⟨F, ρ, d, ρ', s, eg, k⟩ := q
    obtain ⟨⟨x, ρ1⟩, e1, eg⟩ := bind_some eg
    refine ⟨F, ρ, x, ρ1, s, e1, fun F1 H1 p1 s1 => ?_⟩
    cases x with
    | false => exact ⟨F1, ρ1, d, ρ', s1, eg, fun F2 H2 p2 s2 => k F2 H2 (p1.trans p2) s2⟩
    | true =>
      cases eg
      exact k F1 H1 p1 s1
theorem dt_and1 {ga : Md Bool} (ha : DT X a ga) : DW X (.BoolOp .And [a] pos) ga := pw_and1 ha
theorem dt_or1 {ga : Md Bool} (ha : DT X a ga) : DW X (.BoolOp .Or [a] pos) ga := pw_or1 ha
theorem dt_bool {op : BoolOp} {ga : Md Bool} (h : DW X (.BoolOp op es pos) ga) : DT X (.BoolOp op es pos) ga := h.pt
theorem dt_not {ga : Md Bool} (ha : DT X a ga) : DT X (.UnaryOp .Not a pos) (gNot ga) :=
  pt_imp (pt_not ha) fun σ H Q q => by
    obtain ⟨F, ρ, d, ρ', s, eg, k⟩ := q
    obtain ⟨⟨x, ρ1⟩, e1, eg⟩ := bind_some eg
    cases eg
    exact ⟨F, ρ, x, _, s, e1, fun F1 H1 p1 s1 => k F1 H1 p1 s1⟩
theorem de_or {ga gb : Md D} {rest : List Expr} (ha : DE X a ga) (hb : DE X (.BoolOp .Or (b :: rest) pos) gb) : DE X (.BoolOp .Or (a :: b :: rest) pos) (gOrV ga gb) :=
  pe_imp (pe_or ha hb) fun σ H Q q => by
    obtain ⟨F, ρ, d, ρ', s, eg, k⟩ := q
    obtain ⟨⟨x, ρ1⟩, e1, eg⟩ := bind_some eg
    obtain ⟨z, e3, eg⟩ := bind_some eg
    have e5 := bOf_some e3
    refine ⟨F, ρ, x, ρ1, s, e1, fun v F1 H1 p1 s1 r1 => ⟨z, by subst e5; exact dp_bl r1, ?_⟩⟩
    cases z with
    | false => exact ⟨F1, ρ1, d, ρ', s1, eg, fun u F2 H2 p2 s2 => k u F2 H2 (p1.trans p2) s2⟩
    | true =>
      cases eg
      exact k _ F1 H1 p1 s1 (.bl true)
theorem de_one {op : BoolOp} {ga : Md D} (h : DE X a ga) : DE X (.BoolOp op [a] pos) ga := pe_one h
theorem de_ifE {gc : Md Bool} {ga gb : Md D} (hc : DT X c gc) (ha : DE X a ga) (hb : DE X b gb) : DE X (.IfExp c a b pos) (gIfE gc ga gb) :=
  pe_imp (pe_ifExp hc ha hb) fun σ H Q q => by
    obtain ⟨F, ρ, d, ρ', s, eg, k⟩ := q
    obtain ⟨⟨x, ρ1⟩, e1, eg⟩ := bind_some eg
    refine ⟨F, ρ, x, ρ1, s, e1, fun F1 H1 p1 s1 => ?_⟩
    cases x with
    | true => exact ⟨F1, ρ1, d, ρ', s1, eg, fun u F2 H2 p2 s2 => k u F2 H2 (p1.trans p2) s2⟩
    | false => exact ⟨F1, ρ1, d, ρ', s1, eg, fun u F2 H2 p2 s2 => k u F2 H2 (p1.trans p2) s2⟩
theorem da_nl : DA X [] gNil := pa_imp pa_nil fun σ H Q q => by
  obtain ⟨F, ρ, d, ρ', s, eg, k⟩ := q
  cases eg
  exact k [] F H Stp.refl s .nil
theorem da_cs {g : Md D} {gs : Md (List D)} (ha : DE X e g) (hr : DA X es gs) (hs : starEach (e :: es) X.env = (false, eval e X.env) :: starEach es X.env := by rfl) : DA X (e :: es) (gCons g gs) :=
  pa_imp (pa_cons ha hr hs) fun σ H Q q => by
    obtain ⟨F, ρ, d, ρ', s, eg, k⟩ := q
    obtain ⟨⟨x, ρ1⟩, e1, eg⟩ := bind_some eg
    obtain ⟨⟨y, ρ2⟩, e2, eg⟩ := bind_some eg
    cases eg
    exact ⟨F, ρ, x, ρ1, s, e1, fun v F1 H1 p1 s1 r1 => ⟨F1, ρ1, y, _, s1, e2, fun u F2 H2 p2 s2 r2 => k (v :: u) F2 H2 (p1.trans p2) s2 (.cons (dp_mono p2.ff _ _ r1) r2)⟩⟩
def mkTup (ds : List D) : Option D := if ds.length ≤ 16777216 then some (.tuple ds) else none
def mkLst (ds : List D) : Option D := if ds.length ≤ 16777216 then some (.list ds) else none
theorem line_eq : sizeLine = 16777216 := sizeLine_eq
theorem de_tup {gs : Md (List D)} {k : Nat} (h : DA X es gs) : DE X (.Tuple es k pos) (gApp mkTup gs) :=
  pe_imp (pe_tup h) fun σ H Q q => by
    obtain ⟨F, ρ, d, ρ', s, eg, k⟩ := q
    obtain ⟨⟨x, ρ1⟩, e1, eg⟩ := bind_some eg
    obtain ⟨z, e3, eg⟩ := bind_some eg
    cases eg
    unfold mkTup at e3
    split at e3
    · rename_i hl
      cases e3
      refine ⟨F, ρ, x, ρ1, s, e1, fun vs F1 H1 p1 s1 r1 => ⟨by rw [line_eq, da_len r1]; exact hl, fun p hp => ?_⟩⟩
      have gr : Grow F1 H1 (upd F1 p (.tup vs)) (upd H1 p (.tup vs)) := Grow.val s1.sub hp
      exact k _ _ _ (p1.trans (gr.stp σ ρ1)) (s1.grow gr) (.tup (.inl (.inl upd_same)) (dpAll_mono gr.ff _ _ r1))
    · cases e3
theorem own_new {K : Kx} {F H : Hp} {p : Addr} {vs : List V} {ds : List D} (s : Same F H) (hp : H p = none) (r : RpAll K F vs ds) : OwnN K F (upd H p (.lst vs)) p (.list ds) := ⟨⟨none_sub s hp, .inl ⟨vs, ds, rfl, upd_same, r⟩⟩, rfl⟩
theorem not_owns {K : Kx} {F H : Hp} {σ : L2.St} {ρ : Env} {p : Addr} (s : St K F H σ ρ) (hp : H p = none) : ¬ Owns σ ρ p := fun z => by
  obtain ⟨_, u, e⟩ := s.free z
  rw [hp] at e
  cases e
theorem df_lst {gs : Md (List D)} (h : DA X es gs) : DF X (.List es pos) (gApp mkLst gs) :=
  pe_imp (pe_lst h) fun σ H Q q => by
    obtain ⟨F, ρ, d, ρ', s, eg, k⟩ := q
    obtain ⟨⟨x, ρ1⟩, e1, eg⟩ := bind_some eg
    obtain ⟨z, e3, eg⟩ := bind_some eg
    cases eg
    unfold mkLst at e3
    split at e3
    · rename_i hl
      cases e3
      refine ⟨F, ρ, x, ρ1, s, e1, fun vs F1 H1 p1 s1 r1 => ⟨by rw [line_eq, da_len r1]; exact hl, fun p hp => ?_⟩⟩
      have gr : Grow F1 H1 F1 (upd H1 p (.lst vs)) := Grow.own s1.sub hp
      exact k p _ _ (p1.trans (gr.stp σ ρ1)) (s1.grow gr) (own_new s1.sub hp r1) (not_owns s1 hp) (p1.none hp)
    · cases e3
end
end Dn
set_option maxHeartbeats 2000000
namespace DnLt
open PySem PySem.SeqAt PyProof.Rows
open AutoSeq1 (wpAny_loadPart')
open MeetsSeq MeetsSeq2 MeetsSeq3 SeqRoads2
def LtAt (A : Around) (s : Shared) : List Value → List Value → Bool → Prop
  | [], [], k => k = false
  | [], _ :: _, k => k = true
  | _ :: _, [], k => k = false
  | v :: vs, w :: ws, k => (EqAt A s v w true ∧ LtAt A s vs ws k) ∨ (EqAt A s v w false ∧ RcLt A s v w k)
theorem ltAt_end {A : Around} {s : Shared} {vs ws : List Value} {k : Bool} (h : LtAt A s vs ws k) (e : vs.zip ws = []) : k = decide (vs.length < ws.length) := by
  cases vs with
  | nil =>
    cases ws with
    | nil => exact h
    | cons w ws =>
      have h1 : k = true := h
      rw [h1]
      exact (decide_eq_true (Nat.succ_pos _)).symm
  | cons v vs =>
    cases ws with
    | nil =>
      have h1 : k = false := h
      rw [h1]
      exact (decide_eq_false (Nat.not_lt_zero _)).symm
    | cons w ws => cases e
theorem tup_meets (l b : Addr) (xs ys : Array Value) (n n2 : Nat) (dd dd2 : Option Addr) (sl sl2 : Array (Option Value)) (k : Bool) :
    Meets (Builtin.«tuple.__lt__» ⟨[.ref l, .ref b], []⟩)
      (fun A R s => (s.heap.get? l = some { cls := .type "tuple", dict := dd, data := .seq xs n, slots := sl } ∧ s.heap.get? b = some { cls := .type "tuple", dict := dd2, data := .seq ys n2, slots := sl2 }) ∧
        LtAt A.in1 s xs.toList ys.toList k ∧ R (.ok (.ret (.bool k))) s) :=
  .of_wp fun prog w A R s h => by
    obtain ⟨hp, gn, dw, tk, os⟩ := s
    obtain ⟨⟨hl, hb⟩, hk, hR⟩ := h
    have f2 := AutoSeq1.sub_tuple_tuple
    wp_walk using wpAny_loadPart' hl, wpAny_loadPart' hb, wpAny_forIn_list _ (fun rest q s' => q.1 = none ∧ s' = ⟨hp, gn, dw, tk, os⟩ ∧ ∃ vs ws, rest = vs.zip ws ∧ LtAt A.in1 ⟨hp, gn, dw, tk, os⟩ vs ws k ∧
      decide (vs.length < ws.length) = decide (xs.size < ys.size)) _
    case turn =>
      rintro ⟨y, x⟩ rest q s' ⟨hq, rfl, vs, ws, hz, hk2, hs⟩
      cases vs with
      | nil => cases hz
      | cons v vs =>
        cases ws with
        | nil => cases hz
        | cons u ws =>
          rw [List.zip_cons_cons] at hz
          injection hz with h1 h2
          injection h1 with h3 h4
          subst h3 h4 h2
          have hs2 : decide (vs.length < ws.length) = decide (xs.size < ys.size) := by
            rw [← hs]
            simp
          rcases hk2 with ⟨e1, e2⟩ | ⟨e1, e2⟩
          · refine wpAny_bind (e1 prog w _ _ ?_)
            wp_walk
            exact ⟨rfl, rfl, vs, ws, rfl, e2, hs2⟩
          · refine wpAny_bind (e1 prog w _ _ ?_)
            have e3 := e2 prog w
            generalize PySem.richCompare = rc at e3 ⊢
            wp_walk
            refine e3 _ _ ?_
            wp_walk
            exact ⟨_, rfl, hR⟩
    case fin =>
      rintro ⟨q1, q2⟩ s' ⟨hq, rfl, vs, ws, hz, hk2, hs⟩
      simp only at hq
      subst hq
      have e := ltAt_end hk2 hz.symm
      rw [hs] at e
      wp_walk
      refine ⟨_, rfl, ?_⟩
      rw [e] at hR
      simpa [Builtin.Tuple.tupleCompareSizes] using hR
    case h =>
      exact ⟨rfl, rfl, xs.toList, ys.toList, by simp, hk, by simp⟩
theorem tup_lt {A : Around} {s : Shared} {l b : Addr} {xs ys : Array Value} {k : Bool} (hl : s.heap.IsTuple l xs) (hb : s.heap.IsTuple b ys) (hu : A.units < cLine) (h : LtAt A.in1 s xs.toList ys.toList k) : RcLt A s (.ref l) (.ref b) k := fun prog w E Q q => by
  obtain ⟨⟨c1, d1, a1, s1⟩, ho, hc, n, hd⟩ := id hl
  obtain ⟨⟨c2, d2, a2, s2⟩, ho2, hc2, n2, hd2⟩ := id hb
  simp only at hc hd hc2 hd2
  subst hc hd hc2 hd2
  refine richCompare_meets_room (op := .Lt) ⟨_, ho, rfl⟩ ⟨_, ho2, rfl⟩ F.slot_tuple_lt F.entry_tuple_lt (F.args_tuple_lt_2 _ _) (tup_meets l b xs ys n n2 d1 d2 s1 s2 k) ⟨⟨ho, ho2⟩, h, ?_⟩ hu
  exact (⟨(fun x => nomatch x), q⟩ : Value.bool k ≠ Value.notImplemented ∧ Q (.bool k) s)
mutual
/-- x < y, where it can be said -/
def ltB : PyData → PyData → Option Bool
  | .int a, .int b => some (decide (a < b))
  | .str a, .str b => some (decide (a.cps.toList < b.cps.toList))
  | .bool a, .bool b => some (!a && b)
  | .tuple xs, .tuple ys => ltA xs ys
  | _, _ => none
def ltA : List PyData → List PyData → Option Bool
  | [], [] => some false
  | [], _ :: _ => some true
  | _ :: _, [] => some false
  | x :: xs, y :: ys => if PyData.eqv x y = true then ltA xs ys else ltB x y
end
theorem units_in1 (A : Around) : A.in1.units = A.units + 1 := rfl
mutual
theorem rc_lt : ∀ (x y : PyData) (A : Around) (s : Shared) (a b : Value) (as bs : List Addr) (k : Bool), Reads s.heap a x as → Reads s.heap b y bs → ltB x y = some k → x.canLay0 = true → y.canLay0 = true → A.units + x.depth < cLine → RcLt A s a b k
  | .int i, y, A, s, a, b, as, bs, k, ra, rb, h, _, _, _ => by
    cases y <;> simp only [ltB, reduceCtorEq, Option.some.injEq] at h
    cases ra
    cases rb
    intro prog w E Q q
    rw [← h] at q
    exact lt_int q
  | .str i, y, A, s, a, b, as, bs, k, ra, rb, h, _, _, _ => by
    cases y <;> simp only [ltB, reduceCtorEq, Option.some.injEq] at h
    cases ra
    cases rb
    intro prog w E Q q
    rw [← h] at q
    exact lt_str q
  | .bool i, .bool j, A, s, a, b, as, bs, k, ra, rb, h, _, _, _ => by
    simp only [ltB, Option.some.injEq] at h
    cases ra
    cases rb
    intro prog w E Q q
    rw [← h] at q
    have e : (!i && j) = decide ((if i then (1 : Int) else 0) < (if j then 1 else 0)) := by cases i <;> cases j <;> rfl
    rw [e] at q
    exact lt_bool q
  | .bool _, .none, _, _, _, _, _, _, _, _, _, h, _, _, _ => by simp [ltB] at h
  | .bool _, .int _, _, _, _, _, _, _, _, _, _, h, _, _, _ => by simp [ltB] at h
  | .bool _, .str _, _, _, _, _, _, _, _, _, _, h, _, _, _ => by simp [ltB] at h
  | .bool _, .list _, _, _, _, _, _, _, _, _, _, h, _, _, _ => by simp [ltB] at h
  | .bool _, .tuple _, _, _, _, _, _, _, _, _, _, h, _, _, _ => by simp [ltB] at h
  | .bool _, .dict _, _, _, _, _, _, _, _, _, _, h, _, _, _ => by simp [ltB] at h
  | .tuple xs, y, A, s, a, b, as, bs, k, ra, rb, h, c1, c2, hu => by
    cases y <;> simp [ltB] at h
    rename_i ys
    cases ra with
    | tuple k1 k2 k3 k4 =>
      cases rb with
      | tuple m1 m2 m3 m4 =>
        have hd : A.units + (PyData.depthAll xs + 1) < cLine := by simpa [PyData.depth] using hu
        exact tup_lt ⟨_, k1, k2, _, k3⟩ ⟨_, m1, m2, _, m3⟩ (by omega) (rc_ltA xs ys A.in1 s _ _ _ _ k k4 m4 h (by simpa [PyData.canLay0] using c1) (by simpa [PyData.canLay0] using c2) (by rw [units_in1]; omega))
  | .none, y, _, _, _, _, _, _, _, _, _, h, _, _, _ => by cases y <;> simp [ltB] at h
  | .list _, y, _, _, _, _, _, _, _, _, _, h, _, _, _ => by cases y <;> simp [ltB] at h
  | .dict _, y, _, _, _, _, _, _, _, _, _, h, _, _, _ => by cases y <;> simp [ltB] at h
theorem rc_ltA : ∀ (xs ys : List PyData) (A : Around) (s : Shared) (vs ws : List Value) (as bs : List Addr) (k : Bool), ReadsAll s.heap vs xs as → ReadsAll s.heap ws ys bs → ltA xs ys = some k → PyData.canLayAll0 xs = true → PyData.canLayAll0 ys = true →
    A.units + PyData.depthAll xs < cLine → LtAt A s vs ws k
  | [], [], A, s, _, _, _, _, k, ra, rb, h, _, _, _ => by
    cases ra
    cases rb
    simp only [ltA, Option.some.injEq] at h
    exact (show k = false from h.symm)
  | [], _ :: _, A, s, _, _, _, _, k, ra, rb, h, _, _, _ => by
    cases ra
    cases rb
    simp only [ltA, Option.some.injEq] at h
    exact (show k = true from h.symm)
  | _ :: _, [], A, s, _, _, _, _, k, ra, rb, h, _, _, _ => by
    cases ra
    cases rb
    simp only [ltA, Option.some.injEq] at h
    exact (show k = false from h.symm)
  | x :: xs, y :: ys, A, s, _, _, _, _, k, ra, rb, h, c1, c2, hu => by
    have d1 : x.canLay0 = true ∧ PyData.canLayAll0 xs = true := by simpa [PyData.canLayAll0] using c1
    have d2 : y.canLay0 = true ∧ PyData.canLayAll0 ys = true := by simpa [PyData.canLayAll0] using c2
    have hd : A.units + max x.depth (PyData.depthAll xs) < cLine := by simpa [PyData.depthAll] using hu
    cases ra with
    | cons r rs =>
      cases rb with
      | cons t ts =>
        have e := eqAt_reads x y A s _ _ _ _ r t d1.1 d2.1 (by omega)
        rw [ltA] at h
        by_cases q : PyData.eqv x y = true
        · rw [if_pos q] at h
          rw [q] at e
          exact .inl ⟨e, rc_ltA xs ys A s _ _ _ _ k rs ts h d1.2 d2.2 (by omega)⟩
        · rw [if_neg q] at h
          have q' : PyData.eqv x y = false := by simpa using q
          rw [q'] at e
          exact .inr ⟨e, rc_lt x y A s _ _ _ _ k r t h d1.1 d2.1 (by omega)⟩
end
end DnLt
set_option maxHeartbeats 2000000
namespace Dn
open PySem PySem.Spec PyProof.Rows L2
def addD : D → D → Option D
  | .int i, .int j => some (.int (i + j))
  | .str a, .str b => if a.length + b.length ≤ 16777216 then some (.str (a ++ b)) else none
  | .list a, .list b => if a.length + b.length ≤ 16777216 then some (.list (a ++ b)) else none
  | .tuple a, .tuple b => if a.length + b.length ≤ 16777216 then some (.tuple (a ++ b)) else none
  | _, _ => none
def subD : D → D → Option D
  | .int i, .int j => some (.int (i - j))
  | _, _ => none
def mulD : D → D → Option D
  | .int i, .int j => if i.natAbs.log2 + j.natAbs.log2 < 1000000 then some (.int (i * j)) else none
  | _, _ => none
/-- a product with a factor of less than 64 bits -/
def mulS : D → D → Option D
  | .int i, .int j => if -(2 ^ 64) < j ∧ j < 2 ^ 64 then some (.int (i * j)) else none
  | _, _ => none
def modD : D → D → Option D
  | .int i, .int j => if 0 < j then some (.int (i % j)) else none
  | _, _ => none
def fdivD : D → D → Option D
  | .int i, .int j => if 0 < j ∧ j < 18446744073709551616 then some (.int (i / j)) else none
  | _, _ => none
def negD : D → Option D
  | .int i => some (.int (-i))
  | _ => none
/-- the same, as Python's == says it -/
def eqT (d e : D) : Option Bool := match d, e with
  | .int a, .int b => some (decide (a = b))
  | .str a, .str b => some (decide (a = b))
  | .bool a, .bool b => some (decide (a = b))
  | .none, .none => some true
  | d, e => if SeqAt.shaped d = true ∧ SeqAt.shaped e = true then some (PyData.eqv d e) else none
def eqD (d e : D) : Option D := (eqT d e).bind fun b => some (.bool b)
def neD (d e : D) : Option D := (eqT d e).bind fun b => some (.bool (!b))
def ltT (d e : D) : Option Bool := match d, e with
  | .int a, .int b => some (decide (a < b))
  | .str a, .str b => some (decide (a.cps.toList < b.cps.toList))
  | d, e => if SeqAt.shaped d = true ∧ SeqAt.shaped e = true then DnLt.ltB d e else none
def ltD (d e : D) : Option D := (ltT d e).bind fun b => some (.bool b)
def leD : D → D → Option D
  | .int a, .int b => some (.bool (decide (a ≤ b)))
  | _, _ => none
def gtD : D → D → Option D
  | .int a, .int b => some (.bool (decide (b < a)))
  | _, _ => none
def geD : D → D → Option D
  | .int a, .int b => some (.bool (decide (b ≤ a)))
  | _, _ => none
def isN : D → Bool
  | .none => true
  | _ => false
def isD (d e : D) : Option D := match d, e with
  | d, .none => some (.bool (isN d))
  | .bool a, .bool b => some (.bool (decide (a = b)))
  | _, _ => none
def isntD (d e : D) : Option D := match d, e with
  | d, .none => some (.bool (!isN d))
  | .bool a, .bool b => some (.bool (!decide (a = b)))
  | _, _ => none
section
variable {X : Cx}
theorem op_addD : OpR X (binaryOp .Add) (rP2 (cxK X) addD) := by
  intro pins s σ H x y v u Q I rx ry h
  obtain ⟨F, d, e, r, sf, hd, he, ef, k⟩ := h
  unfold addD at ef
  split at ef
  · cases ef
    cases hd
    cases he
    exact op_add pins s σ H _ _ v u Q I rx ry ⟨_, _, rfl, rfl, k _ F H (Grow.refl sf) (.int _)⟩
  · split at ef
    · rename_i hl
      cases ef
      cases hd
      cases he
      exact op_add_str pins s σ H _ _ v u Q I rx ry ⟨_, _, rfl, rfl, by rw [line_eq]; exact hl, k _ F H (Grow.refl sf) (.str _)⟩
    · cases ef
  · split at ef
    · rename_i as bs hl
      cases ef
      cases hd with
      | lst h1 d1 =>
        cases he with
        | lst h2 d2 =>
          cases rx
          cases ry
          rename_i l xs b ys
          obtain ⟨its, r1, p1, z1⟩ := I.list (sf.seq h1)
          obtain ⟨its2, r2, p2, z2⟩ := I.list (sf.seq h2)
          obtain ⟨o1, n1, g1, c1, q1, t1⟩ := p1
          obtain ⟨o2, n2, g2, c2, q2, t2⟩ := p2
          obtain ⟨cls, dd, data, sl⟩ := o1
          obtain ⟨cls2, dd2, data2, sl2⟩ := o2
          simp only at c1 q1 t1 c2 q2 t2
          subst c1 q1 t1 c2 q2 t2
          have hsz : xs.length + ys.length ≤ sizeLine := by rw [line_eq, da_len d1, da_len d2]; exact hl
          refine concat_meets ⟨_, g1, rfl⟩ ⟨_, g2, rfl⟩ noFill_list_add seq_list_add PySem.F.slot_list_add PySem.F.entry_list_add (PySem.F.args_list_add_2 _ _)
            (list_addW l b its.toArray its2.toArray n1 n2 none none sl sl2 (by simpa [← r1.length, ← r2.length] using hsz)) ⟨g1, g2, ?_⟩
          have ea : its.toArray ++ its2.toArray = (its ++ its2).toArray := by simp
          rw [ea]
          have gr : Grow F H (upd F s.heap.objs.size (.lst (xs ++ ys))) (upd H s.heap.objs.size (.lst (xs ++ ys))) := Grow.val sf I.fresh
          exact ⟨.ref _, _, I.lnew (t' := s.toks) (r1.append r2) (by rw [List.length_append]; exact hsz), rfl, k _ _ _ gr (.lst (.inl (.inl upd_same)) (dpAll_mono gr.ff _ _ (da_app d1 d2)))⟩
    · cases ef
  · split at ef
    · rename_i as bs hl
      cases ef
      cases hd with
      | tup h1 d1 =>
        cases he with
        | tup h2 d2 =>
          rename_i a xs b ys
          have hsz : xs.length + ys.length ≤ sizeLine := by rw [line_eq, da_len d1, da_len d2]; exact hl
          refine op_catA pins s σ H _ _ v u Q I rx ry ⟨a, b, xs, ys, rfl, rfl, seqT_same sf h1, seqT_same sf h2, hsz, fun e => ?_, fun _ e => ?_, fun _ _ p hp => ?_⟩
          · subst e
            cases d1
            exact k _ F H (Grow.refl sf) (.tup h2 d2)
          · subst e
            cases d2
            rw [List.append_nil] at k
            exact k _ F H (Grow.refl sf) (.tup h1 d1)
          · have gr : Grow F H (upd F p (.tup (xs ++ ys))) (upd H p (.tup (xs ++ ys))) := Grow.val sf hp
            exact k _ _ _ gr (.tup (.inl (.inl upd_same)) (dpAll_mono gr.ff _ _ (da_app d1 d2)))
    · cases ef
  · cases ef
theorem op_subD : OpR X (binaryOp .Sub) (rP2 (cxK X) subD) := by
  intro pins s σ H x y v u Q I rx ry h
  obtain ⟨F, d, e, r, sf, hd, he, ef, k⟩ := h
  unfold subD at ef
  split at ef
  · cases ef
    cases hd
    cases he
    exact op_sub pins s σ H _ _ v u Q I rx ry ⟨_, _, rfl, rfl, k _ F H (Grow.refl sf) (.int _)⟩
  · cases ef
theorem op_mulD : OpR X (binaryOp .Mult) (rP2 (cxK X) mulD) := by
  intro pins s σ H x y v u Q I rx ry h
  obtain ⟨F, d, e, r, sf, hd, he, ef, k⟩ := h
  unfold mulD at ef
  split at ef
  · split at ef
    · rename_i hl
      cases ef
      cases hd
      cases he
      exact op_mulW pins s σ H _ _ v u Q I rx ry ⟨_, _, rfl, rfl, hl, k _ F H (Grow.refl sf) (.int _)⟩
    · cases ef
  · cases ef
theorem op_mulS : OpR X (binaryOp .Mult) (rP2 (cxK X) mulS) := by
  intro pins s σ H x y v u Q I rx ry h
  obtain ⟨F, d, e, r, sf, hd, he, ef, k⟩ := h
  unfold mulS at ef
  split at ef
  · split at ef
    · rename_i hl
      cases ef
      cases hd
      cases he
      exact op_mul pins s σ H _ _ v u Q I rx ry ⟨_, _, rfl, rfl, .inr hl, k _ F H (Grow.refl sf) (.int _)⟩
    · cases ef
  · cases ef
theorem op_modD : OpR X (binaryOp .Mod) (rP2 (cxK X) modD) := by
  intro pins s σ H x y v u Q I rx ry h
  obtain ⟨F, d, e, r, sf, hd, he, ef, k⟩ := h
  unfold modD at ef
  split at ef
  · split at ef
    · rename_i hl
      cases ef
      cases hd
      cases he
      exact op_mod pins s σ H _ _ v u Q I rx ry ⟨_, _, rfl, rfl, hl, k _ F H (Grow.refl sf) (.int _)⟩
    · cases ef
  · cases ef
theorem log_64 {j : Int} (h0 : 0 < j) (h : j < 18446744073709551616) : j.natAbs.log2 < 9000 := by
  have z : j.natAbs ≠ 0 := by omega
  have h1 : j.natAbs < 2 ^ 64 := by omega
  exact Nat.lt_of_lt_of_le ((Nat.log2_lt z).mpr h1) (by decide)
theorem op_fdivD : OpR X (binaryOp .FloorDiv) (rP2 (cxK X) fdivD) := by
  intro pins s σ H x y v u Q I rx ry h
  obtain ⟨F, d, e, r, sf, hd, he, ef, k⟩ := h
  unfold fdivD at ef
  split at ef
  · split at ef
    · rename_i hl
      cases ef
      cases hd
      cases he
      exact op_fdivW pins s σ H _ _ v u Q I rx ry ⟨_, _, rfl, rfl, ⟨hl.1, log_64 hl.1 hl.2⟩, k _ F H (Grow.refl sf) (.int _)⟩
    · cases ef
  · cases ef
theorem un_negD : UnR X (unaryOp .USub) (rP1 (cxK X) negD) := by
  intro pins s σ H x v Q I rx h
  obtain ⟨F, d, r, sf, hd, ef, k⟩ := h
  unfold negD at ef
  split at ef
  · cases ef
    cases hd
    exact un_neg pins s σ H _ v Q I rx ⟨_, rfl, k _ F H (Grow.refl sf) (.int _)⟩
  · cases ef
theorem op_eqD' (hu : X.A.units + 64 < cLine) : OpR X (compareOp .Eq) (rP2 (cxK X) eqD) := by
  intro pins s σ H x y v u Q I rx ry h
  obtain ⟨F, d, e, r, sf, hd, he, ef, k⟩ := h
  obtain ⟨b, e1, e2⟩ := bind_some ef
  cases e2
  have q := k (.bl b) F H (Grow.refl sf) (.bl _)
  unfold eqT at e1
  split at e1
  · cases e1
    cases hd
    cases he
    refine op_eq pins s σ H _ _ v u Q I rx ry ⟨rfl, ?_⟩
    rw [dec_int, Bool.beq_eq_decide_eq]
    exact q
  · cases e1
    cases hd
    cases he
    refine op_eq pins s σ H _ _ v u Q I rx ry ⟨rfl, ?_⟩
    rw [dec_str, Bool.beq_eq_decide_eq]
    exact q
  · cases e1
    cases hd
    cases he
    refine op_eq pins s σ H _ _ v u Q I rx ry ⟨rfl, ?_⟩
    rw [dec_bl, Bool.beq_eq_decide_eq]
    exact q
  · cases e1
    cases hd
    cases he
    exact op_eq pins s σ H _ _ v u Q I rx ry ⟨rfl, q⟩
  · split at e1
    · rename_i hs
      cases e1
      exact op_eqD hu pins s σ H _ _ v u Q I rx ry ⟨d, e, rp_dp (dp_mono sf _ _ hd) (SeqAt.canLay_of_shaped hs.1), rp_dp (dp_mono sf _ _ he) (SeqAt.canLay_of_shaped hs.2), hs.1, hs.2, q⟩
    · cases e1
theorem op_neD' (hu : X.A.units + 64 < cLine) : OpR X (compareOp .NotEq) (rP2 (cxK X) neD) := by
  intro pins s σ H x y v u Q I rx ry h
  obtain ⟨F, d, e, r, sf, hd, he, ef, k⟩ := h
  obtain ⟨b, e1, e2⟩ := bind_some ef
  cases e2
  have q := k (.bl (!b)) F H (Grow.refl sf) (.bl _)
  unfold eqT at e1
  split at e1
  · cases e1
    cases hd
    cases he
    refine op_ne pins s σ H _ _ v u Q I rx ry ⟨rfl, ?_⟩
    rw [dec_int, Bool.beq_eq_decide_eq]
    exact q
  · cases e1
    cases hd
    cases he
    refine op_ne pins s σ H _ _ v u Q I rx ry ⟨rfl, ?_⟩
    rw [dec_str, Bool.beq_eq_decide_eq]
    exact q
  · cases e1
    cases hd
    cases he
    refine op_ne pins s σ H _ _ v u Q I rx ry ⟨rfl, ?_⟩
    rw [dec_bl, Bool.beq_eq_decide_eq]
    exact q
  · cases e1
    cases hd
    cases he
    exact op_ne pins s σ H _ _ v u Q I rx ry ⟨rfl, q⟩
  · split at e1
    · rename_i hs
      cases e1
      exact op_neD hu pins s σ H _ _ v u Q I rx ry ⟨d, e, rp_dp (dp_mono sf _ _ hd) (SeqAt.canLay_of_shaped hs.1), rp_dp (dp_mono sf _ _ he) (SeqAt.canLay_of_shaped hs.2), hs.1, hs.2, q⟩
    · cases e1
theorem op_ltD (hu : X.A.units + 64 < cLine) : OpR X (compareOp .Lt) (rP2 (cxK X) ltD) := by
  intro pins s σ H x y v u Q I rx ry h
  obtain ⟨F, d, e, r, sf, hd, he, ef, k⟩ := h
  obtain ⟨b, e1, e2⟩ := bind_some ef
  cases e2
  have q := k (.bl b) F H (Grow.refl sf) (.bl _)
  unfold ltT at e1
  split at e1
  · cases e1
    cases hd
    cases he
    exact op_lt pins s σ H _ _ v u Q I rx ry ⟨_, _, rfl, rfl, q⟩
  · cases e1
    cases hd
    cases he
    exact op_lt_str pins s σ H _ _ v u Q I rx ry ⟨_, _, rfl, rfl, q⟩
  · split at e1
    · rename_i hs
      obtain ⟨as, r1⟩ := Dp.reads I d x v (rp_dp (dp_mono sf _ _ hd) (SeqAt.canLay_of_shaped hs.1)) rx
      obtain ⟨bs, r2⟩ := Dp.reads I e y u (rp_dp (dp_mono sf _ _ he) (SeqAt.canLay_of_shaped hs.2)) ry
      have hdp := SeqAt.depth_of_shaped hs.1
      exact DnLt.rc_lt d e X.A s v u as bs b r1 r2 e1 (SeqAt.canLay_of_shaped hs.1) (SeqAt.canLay_of_shaped hs.2) (by omega) X.prog X.w _ _ ⟨.bl b, H, I, rfl, q⟩
    · cases e1
theorem op_leD : OpR X (compareOp .LtE) (rP2 (cxK X) leD) := by
  intro pins s σ H x y v u Q I rx ry h
  obtain ⟨F, d, e, r, sf, hd, he, ef, k⟩ := h
  unfold leD at ef
  split at ef
  · cases ef
    cases hd
    cases he
    exact op_le pins s σ H _ _ v u Q I rx ry ⟨_, _, rfl, rfl, k _ F H (Grow.refl sf) (.bl _)⟩
  · cases ef
theorem op_gtD : OpR X (compareOp .Gt) (rP2 (cxK X) gtD) := by
  intro pins s σ H x y v u Q I rx ry h
  obtain ⟨F, d, e, r, sf, hd, he, ef, k⟩ := h
  unfold gtD at ef
  split at ef
  · cases ef
    cases hd
    cases he
    exact op_gt pins s σ H _ _ v u Q I rx ry ⟨_, _, rfl, rfl, k _ F H (Grow.refl sf) (.bl _)⟩
  · cases ef
theorem op_geD : OpR X (compareOp .GtE) (rP2 (cxK X) geD) := by
  intro pins s σ H x y v u Q I rx ry h
  obtain ⟨F, d, e, r, sf, hd, he, ef, k⟩ := h
  unfold geD at ef
  split at ef
  · cases ef
    cases hd
    cases he
    exact op_ge pins s σ H _ _ v u Q I rx ry ⟨_, _, rfl, rfl, k _ F H (Grow.refl sf) (.bl _)⟩
  · cases ef
theorem isN_dp {K : Kx} {F : Hp} {x : V} {d : D} (h : Rp K F x d) : decide (x = .non) = isN d := by
  cases h <;> rfl
theorem op_isD : OpR X (compareOp .Is) (rP2 (cxK X) isD) := by
  intro pins s σ H x y v u Q I rx ry h
  obtain ⟨F, d, e, r, sf, hd, he, ef, k⟩ := h
  unfold isD at ef
  split at ef
  · cases ef
    cases he
    refine op_isN pins s σ H _ _ v u Q I rx ry ⟨rfl, ?_⟩
    rw [isN_dp hd]
    exact k _ F H (Grow.refl sf) (.bl _)
  · cases ef
    cases hd
    cases he
    exact op_is_bl pins s σ H _ _ v u Q I rx ry ⟨_, _, rfl, rfl, k _ F H (Grow.refl sf) (.bl _)⟩
  · cases ef
theorem op_isntD : OpR X (compareOp .IsNot) (rP2 (cxK X) isntD) := by
  intro pins s σ H x y v u Q I rx ry h
  obtain ⟨F, d, e, r, sf, hd, he, ef, k⟩ := h
  unfold isntD at ef
  split at ef
  · cases ef
    cases he
    refine op_notN pins s σ H _ _ v u Q I rx ry ⟨rfl, ?_⟩
    rw [isN_dp hd]
    exact k _ F H (Grow.refl sf) (.bl _)
  · cases ef
    cases hd
    cases he
    exact op_isnot_bl pins s σ H _ _ v u Q I rx ry ⟨_, _, rfl, rfl, k _ F H (Grow.refl sf) (.bl _)⟩
  · cases ef
end
def ixA {α : Type} (xs : List α) (i : Int) : Option α := if 0 ≤ i then xs[i.toNat]? else if -(xs.length : Int) ≤ i then xs[(i + xs.length).toNat]? else none
def ixD : D → D → Option D
  | .list xs, .int i => ixA xs i
  | .tuple xs, .int i => ixA xs i
  | _, _ => none
theorem ixA_at {α : Type} {xs : List α} {i : Int} {x : α} (h : ixA xs i = some x) : atI xs i = some x := by
  unfold ixA at h
  unfold atI ixN
  split at h
  · rename_i h0
    have hl : i.toNat < xs.length := (List.getElem?_eq_some_iff.mp h).1
    rw [if_pos h0, if_pos (by omega)]
    exact h
  · rename_i h0
    split at h
    · rename_i h1
      rw [if_neg h0, if_pos h1]
      exact h
    · cases h
theorem da_ix {K : Kx} {F : Hp} {vs : List V} {ds : List D} {i : Int} {d : D} (r : RpAll K F vs ds) (h : ixA ds i = some d) : ∃ v, ixA vs i = some v ∧ Rp K F v d := by
  have hl := da_len r
  unfold ixA at h ⊢
  split at h
  · rename_i h0
    rw [if_pos h0]
    exact da_at r h
  · rename_i h0
    rw [if_neg h0]
    split at h
    · rename_i h1
      rw [if_pos (by rw [hl]; exact h1), hl]
      exact da_at r h
    · cases h
section
variable {X : Cx}
theorem ix_D : IxR X (rP2 (cxK X) ixD) := by
  intro value slice pins s σ H x y v u Q I rx ry h hs
  obtain ⟨F, d, e, r, sf, hd, he, ef, k⟩ := h
  unfold ixD at ef
  split at ef
  · cases he
    cases hd with
    | lst h1 d1 =>
      obtain ⟨z, e1, rz⟩ := da_ix d1 ef
      exact ix_list value slice pins s σ H _ _ v u Q I rx ry ⟨_, _, _, z, rfl, rfl, sf.seq h1, ixA_at e1, k z F H (Grow.refl sf) rz⟩ hs
  · cases he
    cases hd with
    | tup h1 d1 =>
      obtain ⟨z, e1, rz⟩ := da_ix d1 ef
      exact ix_tup value slice pins s σ H _ _ v u Q I rx ry ⟨_, _, _, z, rfl, rfl, seqT_same sf h1, ixA_at e1, k z F H (Grow.refl sf) rz⟩ hs
  · cases ef
end
def gNoP : Md (Option Int) := fun ρ => some (none, ρ)
def iOf : D → Option Int
  | .int i => some i
  | _ => none
def gPart (g : Md D) : Md (Option Int) := fun ρ => (g ρ).bind fun p => (iOf p.1).bind fun i => some (some i, p.2)
def tDO (K : Kx) (g : Md (Option Int)) : TO := fun σ H Q => ∃ (F : Hp) (ρ : Env) (d : Option Int) (ρ' : Env), St K F H σ ρ ∧ g ρ = some (d, ρ') ∧
  ∀ F' H', Stp F σ ρ H F' σ ρ' H' → St K F' H' σ ρ' → Q d H'
abbrev DO (X : Cx) (e : Option Expr) (g : Md (Option Int)) : Prop := PO X e (tDO (cxK X) g)
theorem po_imp {X : Cx} {e : Option Expr} {t t' : TO} (h : PO X e t) (i : ∀ σ H Q, t' σ H Q → t σ H Q) : PO X e t' := ⟨fun pins s σ H Q I q => h.run pins s σ H Q I (i σ H Q q)⟩
theorem iOf_some {d : D} {i : Int} (h : iOf d = some i) : d = .int i := by
  cases d <;> simp [iOf] at h
  subst h
  rfl
theorem do_none {X : Cx} : DO X none gNoP := po_imp po_none fun σ H Q q => by
  obtain ⟨F, ρ, d, ρ', s, eg, k⟩ := q
  cases eg
  exact k F H Stp.refl s
theorem do_some {X : Cx} {e : Expr} {g : Md D} (h : DE X e g) : DO X (some e) (gPart g) := po_imp (po_some h) fun σ H Q q => by
  obtain ⟨F, ρ, d, ρ', s, eg, k⟩ := q
  obtain ⟨⟨x, ρ1⟩, e1, eg1⟩ := bind_some eg
  obtain ⟨z, e3, eg2⟩ := bind_some eg1
  cases eg2
  have e5 := iOf_some e3
  subst e5
  exact ⟨F, ρ, _, _, s, e1, fun v F1 H1 p1 s1 r1 => ⟨z, by cases r1; rfl, k F1 H1 p1 s1⟩⟩
def cutA {α : Type} (xs : List α) (lo hi : Option Int) : List α := (xs.drop (HT.sIx xs.length 0 lo)).take (HT.sIx xs.length xs.length hi - HT.sIx xs.length 0 lo)
def cutD (d : D) (lo hi : Option Int) : Option D := match d with
  | .list xs => some (.list (cutA xs lo hi))
  | .tuple xs => some (.tuple (cutA xs lo hi))
  | _ => none
def gSl (ga : Md D) (gl gh : Md (Option Int)) : Md D := fun ρ => (ga ρ).bind fun p => (gl p.2).bind fun q => (gh q.2).bind fun r => (cutD p.1 q.1 r.1).bind fun d => some (d, r.2)
theorem da_cut {K : Kx} {F : Hp} {vs : List V} {ds : List D} (r : RpAll K F vs ds) (lo hi : Option Int) : RpAll K F (cutV vs lo hi) (cutA ds lo hi) := by
  have hl := da_len r
  unfold cutV cutA
  rw [hl]
  exact da_take _ (da_drop _ r)
section
variable {X : Cx} {e : Expr} {lo hi : Option Expr} {pos p2 : Pos}
theorem de_slice {ga : Md D} {gl gh : Md (Option Int)} (he : DE X e ga) (hl : DO X lo gl) (hh : DO X hi gh) : DE X (.Subscript e (.Slice lo hi none p2) pos) (gSl ga gl gh) :=
  pe_imp (pe_slice (sl_list.or sl_tupA) he hl hh) fun σ H Q q => by
    obtain ⟨F, ρ, d, ρ', s, eg, k⟩ := q
    obtain ⟨⟨x, ρ1⟩, e1, eg1⟩ := bind_some eg
    obtain ⟨⟨l, ρ2⟩, e2, eg2⟩ := bind_some eg1
    obtain ⟨⟨h, ρ3⟩, e3, eg3⟩ := bind_some eg2
    obtain ⟨z, e4, eg4⟩ := bind_some eg3
    cases eg4
    refine ⟨F, ρ, x, ρ1, s, e1, fun v F1 H1 p1 s1 r1 => ⟨F1, ρ1, l, ρ2, s1, e2, fun F2 H2 p2 s2 => ⟨F2, ρ2, h, _, s2, e3, fun F3 H3 p3 s3 => ?_⟩⟩⟩
    have pp := p1.trans (p2.trans p3)
    have r3 : Rp (cxK X) F3 v x := dp_mono (p2.ff.trans p3.ff) _ _ r1
    have e5 : cutD x l h = some _ := e4
    clear e4 eg3 eg2 eg1 eg
    cases x with
    | list xs =>
      cases e5
      cases r3 with
      | @lst a vs _ h1 d1 =>
        refine .inl ⟨a, vs, rfl, s3.sub.seq h1, fun p hp => ?_⟩
        have gr : Grow F3 H3 (upd F3 p (.lst (cutV vs l h))) (upd H3 p (.lst (cutV vs l h))) := Grow.val s3.sub hp
        exact k _ _ _ (pp.trans (gr.stp σ _)) (s3.grow gr) (.lst (.inl (.inl upd_same)) (dpAll_mono gr.ff _ _ (da_cut d1 l h)))
    | tuple xs =>
      cases e5
      cases r3 with
      | @tup a vs _ h1 d1 =>
        refine .inr ⟨a, vs, rfl, seqT_same s3.sub h1, fun hw => ?_, fun _ p hp => ?_⟩
        · have hl := da_len d1
          have ec : ∀ (xs : List D), HT.sIx xs.length 0 l = 0 ∧ HT.sIx xs.length xs.length h = xs.length → cutA xs l h = xs := fun xs w => by
            unfold cutA
            rw [w.1, w.2]
            simp
          rw [ec _ (by rw [← hl]; exact hw)] at k
          exact k _ _ _ pp s3 (.tup h1 d1)
        · have gr : Grow F3 H3 (upd F3 p (.tup (cutV vs l h))) (upd H3 p (.tup (cutV vs l h))) := Grow.val s3.sub hp
          exact k _ _ _ (pp.trans (gr.stp σ _)) (s3.grow gr) (.tup (.inl (.inl upd_same)) (dpAll_mono gr.ff _ _ (da_cut d1 l h)))
    | none => cases e5
    | bool _ => cases e5
    | int _ => cases e5
    | str _ => cases e5
    | dict _ => cases e5
end
def lenF : List D → Option D
  | [.list xs] => some (.int xs.length)
  | [.tuple xs] => some (.int xs.length)
  | [.str x] => if x.length ≤ 16777216 then some (.int x.length) else none
  | _ => none
def intF : List D → Option D
  | [.int i] => some (.int i)
  | [.bool b] => some (.int (if b then 1 else 0))
  | _ => none
def absF : List D → Option D
  | [.int i] => some (.int (if i < 0 then -i else i))
  | _ => none
def maxF : List D → Option D
  | [.int i, .int j] => some (.int (if j > i then j else i))
  | _ => none
def minF : List D → Option D
  | [.int i, .int j] => some (.int (if j < i then j else i))
  | _ => none
def tupF : List D → Option D
  | [.list xs] => some (.tuple xs)
  | [.tuple xs] => some (.tuple xs)
  | _ => none
def lstF : List D → Option D
  | [.list xs] => some (.list xs)
  | [.tuple xs] => some (.list xs)
  | _ => none
def strF : List D → Option D
  | [.int i] => if i.natAbs.log2 < 1920 then some (.str (toString i)) else none
  | _ => none
def ordF : List D → Option D
  | [.str x] => if x.length = 1 then some (.int (x.cps.getD 0 0 : Nat)) else none
  | _ => none
section
variable {X : Cx}
theorem da1 {K : Kx} {F : Hp} {vs : List V} {d : D} (h : RpAll K F vs [d]) : ∃ v, vs = [v] ∧ Rp K F v d := by
  cases h with
  | cons h t =>
    cases t
    exact ⟨_, rfl, h⟩
theorem da2 {K : Kx} {F : Hp} {vs : List V} {d e : D} (h : RpAll K F vs [d, e]) : ∃ v w, vs = [v, w] ∧ Rp K F v d ∧ Rp K F w e := by
  cases h with
  | cons h t =>
    obtain ⟨w, rfl, r⟩ := da1 t
    exact ⟨_, w, rfl, h, r⟩
theorem call_lenD : CallR X (.builtin "len") (rPn (cxK X) lenF) := by
  intro pins s σ H xs us Q I rx h
  obtain ⟨F, ds, r, sf, hd, ef, k⟩ := h
  unfold lenF at ef
  split at ef
  · cases ef
    obtain ⟨v, rfl, hv⟩ := da1 hd
    cases hv with
    | lst h1 d1 => exact call_len_seq pins s σ H _ us Q I rx ⟨_, _, rfl, .inl (sf.seq h1), by rw [da_len d1]; exact k _ F H (Grow.refl sf) (.int _)⟩
  · cases ef
    obtain ⟨v, rfl, hv⟩ := da1 hd
    cases hv with
    | tup h1 d1 => exact call_len_seq pins s σ H _ us Q I rx ⟨_, _, rfl, .inr (seqT_same sf h1), by rw [da_len d1]; exact k _ F H (Grow.refl sf) (.int _)⟩
  · split at ef
    · rename_i hl
      cases ef
      obtain ⟨v, rfl, hv⟩ := da1 hd
      cases hv
      exact call_len_str pins s σ H _ us Q I rx ⟨_, rfl, by rw [line_eq]; exact hl, k _ F H (Grow.refl sf) (.int _)⟩
    · cases ef
  · cases ef
theorem call_intD : CallR X (.type "int") (rPn (cxK X) intF) := by
  intro pins s σ H xs us Q I rx h
  obtain ⟨F, ds, r, sf, hd, ef, k⟩ := h
  unfold intF at ef
  split at ef
  · cases ef
    obtain ⟨v, rfl, hv⟩ := da1 hd
    cases hv
    exact call_int1 pins s σ H _ us Q I rx (.inl ⟨_, rfl, k _ F H (Grow.refl sf) (.int _)⟩)
  · cases ef
    obtain ⟨v, rfl, hv⟩ := da1 hd
    cases hv
    exact call_int1 pins s σ H _ us Q I rx (.inr ⟨_, rfl, k _ F H (Grow.refl sf) (.int _)⟩)
  · cases ef
theorem call_tupD : CallR X (.type "tuple") (rPn (cxK X) tupF) := by
  intro pins s σ H xs us Q I rx h
  obtain ⟨F, ds, r, sf, hd, ef, k⟩ := h
  unfold tupF at ef
  split at ef
  · cases ef
    obtain ⟨v, rfl, hv⟩ := da1 hd
    cases hv with
    | @lst a vs _ h1 d1 =>
      refine call_tuple_of pins s σ H _ us Q I rx ⟨a, vs, rfl, .inl ⟨sf.seq h1, fun p hp => ?_⟩⟩
      have gr : Grow F H (upd F p (.tup vs)) (upd H p (.tup vs)) := Grow.val sf hp
      exact k _ _ _ gr (.tup (.inl (.inl upd_same)) (dpAll_mono gr.ff _ _ d1))
  · cases ef
    obtain ⟨v, rfl, hv⟩ := da1 hd
    cases hv with
    | tup h1 d1 => exact call_tuple_of pins s σ H _ us Q I rx ⟨_, _, rfl, .inr ⟨seqT_same sf h1, k _ F H (Grow.refl sf) (.tup h1 d1)⟩⟩
  · cases ef
theorem call_lstD : CallR X (.type "list") (rFn (cxK X) lstF) := by
  intro pins s σ H xs us Q I rx h
  obtain ⟨F, ds, r, sf, hd, ef, k⟩ := h
  unfold lstF at ef
  split at ef
  · cases ef
    obtain ⟨v, rfl, hv⟩ := da1 hd
    cases hv with
    | lst h1 d1 => exact call_list_of pins s σ H _ us Q I rx ⟨_, _, rfl, .inl (sf.seq h1), fun p hp => k p _ _ (Grow.own sf hp) (own_new sf hp d1) hp⟩
  · cases ef
    obtain ⟨v, rfl, hv⟩ := da1 hd
    cases hv with
    | tup h1 d1 => exact call_list_of pins s σ H _ us Q I rx ⟨_, _, rfl, .inr (seqT_same sf h1), fun p hp => k p _ _ (Grow.own sf hp) (own_new sf hp d1) hp⟩
  · cases ef
theorem call_strD : CallR X (.type "str") (rPn (cxK X) strF) := by
  intro pins s σ H xs us Q I rx h
  obtain ⟨F, ds, r, sf, hd, ef, k⟩ := h
  unfold strF at ef
  split at ef
  · split at ef
    · rename_i hl
      cases ef
      obtain ⟨v, rfl, hv⟩ := da1 hd
      cases hv
      exact call_str_int pins s σ H _ us Q I rx ⟨_, rfl, hl, k _ F H (Grow.refl sf) (.str _)⟩
    · cases ef
  · cases ef
end
/-- the built-in class of a datum -/
def tyD : D → String
  | .none => "NoneType"
  | .bool _ => "bool"
  | .int _ => "int"
  | .str _ => "str"
  | .list _ => "list"
  | .tuple _ => "tuple"
  | .dict _ => "dict"
/-- its type is told by the datum -/
def tyOk : D → Bool
  | .dict ((.int _, _) :: _) => true
  | .dict ((.str _, _) :: _) => true
  | .dict _ => false
  | _ => true
def isiF (T : String) : List D → Option D
  | [d] => if tyOk d = true then (kitB (tyD d) T).bind fun b => some (.bool b) else none
  | _ => none
section
variable {X : Cx}
theorem dp_ty {K : Kx} {F H : Hp} {v : V} {d : D} (s : Same F H) (h : Rp K F v d) (ok : tyOk d = true) : TyX K H v (.type (tyD d)) := by
  cases h with
  | non => exact .base .non
  | bl b => exact .base (.bl b)
  | int i => exact .base (.int i)
  | str x => exact .base (.str x)
  | lst h1 _ =>
    rcases h1 with (h1 | ⟨o, h1⟩) | ⟨o, its, n, h1, h2, _⟩
    · exact .base (.lst (s _ _ h1))
    · exact .base (.frz (s _ _ h1))
    · exact .kList h1 h2
  | dic h1 _ _ => exact .fDict (s _ _ h1)
  | dicE h1 => exact .fDict (s _ _ h1)
  | dicN _ hr =>
    cases hr with
    | nil => cases ok
    | @cons k ka x dk dv xs es hk h1 h2 h3 =>
      cases dk <;> first | (cases h1; done) | (simp [tyOk] at ok; done)
  | tup h1 _ =>
    rcases h1 with (h1 | ⟨o, h1⟩) | ⟨o, its, n, h1, h2, _⟩
    · exact .base (.tup (s _ _ h1))
    · exact .fTuple (s _ _ h1)
    · exact .kTuple h1 h2
theorem isi_cut {T : String} {vs : List V} {H : Hp} {Q : VK} (h : rPn (cxK X) (isiF T) vs H Q) : rIsi (cxK X) (vs ++ [.ty T]) H Q := by
  obtain ⟨F, ds, r, sf, hd, ef, k⟩ := h
  unfold isiF at ef
  split at ef
  · split at ef
    · rename_i ok
      obtain ⟨v, rfl, hv⟩ := da1 hd
      obtain ⟨b, e1, e2⟩ := bind_some ef
      cases e2
      exact ⟨v, .ty T, _, _, b, rfl, .ty T, dp_ty sf hv ok, kit_ty e1, k _ F H (Grow.refl sf) (.bl _)⟩
    · cases ef
  · cases ef
end
end Dn
set_option maxHeartbeats 2000000
namespace Dn
open PySem PySem.Spec PyProof.Rows L2
section
variable {X : Cx} {e a b c : Expr} {es : List Expr} {pos p cpos apos : Pos} {x : Str}
theorem app_q {r : List V → Hp → VK → Prop} {f : List D → Option D} {gs : Md (List D)} (hr : r = rPn (cxK X) f) {σ : L2.St} {H : Hp} {Q : VK} (q : tD (cxK X) (gApp f gs) σ H Q) : tDA (cxK X) gs σ H fun vs H1 => r vs H1 Q := by
  subst hr
  obtain ⟨F, ρ, d, ρ', s, eg, k⟩ := q
  obtain ⟨⟨ds, ρ1⟩, e1, eg1⟩ := bind_some eg
  obtain ⟨z, e3, eg2⟩ := bind_some eg1
  cases eg2
  exact ⟨F, ρ, ds, _, s, e1, fun vs F1 H1 p1 s1 r1 => ⟨F1, ds, _, s1.sub, r1, e3, fun w F3 H3 gr rw' => k w F3 H3 (p1.trans (gr.stp σ _)) (s1.grow gr) rw'⟩⟩
theorem appF_q {r : List V → Hp → VK → Prop} {f : List D → Option D} {gs : Md (List D)} (hr : r = rFn (cxK X) f) {σ : L2.St} {H : Hp} {Q : VK} (q : tF (cxK X) (gApp f gs) σ H Q) : tDA (cxK X) gs σ H fun vs H1 => r vs H1 Q := by
  subst hr
  obtain ⟨F, ρ, d, ρ', s, eg, k⟩ := q
  obtain ⟨⟨ds, ρ1⟩, e1, eg1⟩ := bind_some eg
  obtain ⟨z, e3, eg2⟩ := bind_some eg1
  cases eg2
  exact ⟨F, ρ, ds, _, s, e1, fun vs F1 H1 p1 s1 r1 => ⟨F1, ds, _, s1.sub, r1, e3, fun a F3 H3 gr o hn => k a F3 H3 (p1.trans (gr.stp σ _)) (s1.grow gr) o (not_owns s1 hn) (p1.none hn)⟩⟩
theorem de_callB {id : String} {f : List D → Option D} {gs : Md (List D)} (hc : CallR X (.builtin id) (rPn (cxK X) f)) (hg : Gl X x) (hm : X.mg x = none) (hv : bootBuiltins x = some (.builtin id)) (ha : DA X (e :: es) gs) (hn : x ≠ "__name__" := by decide) (hdb : (x == ("__debug__" : Str)) = false := by decide)
    (he : starEach (e :: es) X.env = (false, eval e X.env) :: starEach es X.env := by rfl) (hpl : (backTo pos (starEach es X.env)).any (·.1) = false := by rfl) : DE X (.Call (.Name x p) (e :: es) [] pos) (gApp f gs) :=
  pe_imp (pe_callB hc hg hm hv ha hn hdb he hpl) fun _ _ _ q => app_q rfl q
theorem de_callTy {T : String} {f : List D → Option D} {gs : Md (List D)} (hc : CallR X (.type T) (rPn (cxK X) f)) (hg : Gl X x) (hm : X.mg x = none) (hv : bootBuiltins x = some (.type T)) (ha : DA X (e :: es) gs) (hn : x ≠ "__name__" := by decide) (hdb : (x == ("__debug__" : Str)) = false := by decide)
    (he : starEach (e :: es) X.env = (false, eval e X.env) :: starEach es X.env := by rfl) (hpl : (backTo pos (starEach es X.env)).any (·.1) = false := by rfl) : DE X (.Call (.Name x p) (e :: es) [] pos) (gApp f gs) :=
  pe_imp (pe_callTy hc hg hm hv ha hn hdb he hpl) fun _ _ _ q => app_q rfl q
theorem df_callTy {T : String} {f : List D → Option D} {gs : Md (List D)} (hc : CallR X (.type T) (rFn (cxK X) f)) (hg : Gl X x) (hm : X.mg x = none) (hv : bootBuiltins x = some (.type T)) (ha : DA X (e :: es) gs) (hn : x ≠ "__name__" := by decide) (hdb : (x == ("__debug__" : Str)) = false := by decide)
    (he : starEach (e :: es) X.env = (false, eval e X.env) :: starEach es X.env := by rfl) (hpl : (backTo pos (starEach es X.env)).any (·.1) = false := by rfl) : DF X (.Call (.Name x p) (e :: es) [] pos) (gApp f gs) :=
  pe_imp (pe_callTy hc hg hm hv ha hn hdb he hpl) fun _ _ _ q => appF_q rfl q
/-- isinstance(e, T) -/
theorem de_isi {T : String} {y : Str} {p2 : Pos} {g : Md D} (hm : X.mg "isinstance" = none) (hgl : Gl X "isinstance") (hgy : Gl X y) (hmy : X.mg y = none) (hv : bootBuiltins y = some (.type T)) (ha : DE X e g) (hny : y ≠ "__name__" := by decide) (hdy : (y == ("__debug__" : Str)) = false := by decide)
    (he : starEach (e :: [.Name y p2]) X.env = (false, eval e X.env) :: starEach [.Name y p2] X.env := by rfl) (he2 : starEach ([.Name y p2]) X.env = (false, eval (.Name y p2) X.env) :: starEach [] X.env := by rfl) (hpl : (backTo pos (starEach [.Name y p2] X.env)).any (·.1) = false := by rfl) : DE X (.Call (.Name "isinstance" p) [e, .Name y p2] [] pos) (gApp (isiF T) (gCons g gNil)) :=
  pe_imp (pe_callB call_isi hgl hm (by decide +kernel) (pa_cons ha (pa_cons (pe_bltn (v := .ty T) hgy hmy hv rfl hny hdy) pa_nil he2) he) (by decide) (by decide) he hpl) fun σ H Q q => by
    obtain ⟨F, ρ, d, ρ', s, eg, k⟩ := q
    obtain ⟨⟨ds, ρ1⟩, e1, eg1⟩ := bind_some eg
    obtain ⟨z, e3, eg2⟩ := bind_some eg1
    cases eg2
    obtain ⟨⟨d1, ρ2⟩, e4, eg4⟩ := bind_some e1
    cases eg4
    exact ⟨F, ρ, d1, ρ2, s, e4, fun v F1 H1 p1 s1 r1 => isi_cut (vs := [v]) ⟨F1, [d1], _, s1.sub, .cons r1 .nil, e3, fun w F3 H3 gr rw' => k w F3 H3 (p1.trans (gr.stp σ ρ2)) (s1.grow gr) rw'⟩⟩
def spV (K : Kx) (n : Nat) (f : List D → Option D) : Sp := fun vs H Q _ => vs.length = n ∧ rPn K f vs H Q
theorem de_call {k n : Nat} {f : Addr} {fd : FuncData} {ps : List Str} {g : List D → Option D} {gs : Md (List D)} (G : FnOk X.prog X.w X.K X.mg X.base CX0 k f fd ps (spV (cxK X) n g)) (hr : Room k X.A) (hg : Gl X x) (hm : X.mg x = some (.ref f)) (hk : PySem.W.keepIn X.K (.ref f) = true) (hb : Binds X.K fd ps []) (hn : (e :: es).length = n) (ha : DA X (e :: es) gs) (hlen : ∀ ρ ds ρ', gs ρ = some (ds, ρ') → ds.length = n)
    (hdb : (x == ("__debug__" : Str)) = false := by decide) (he : starEach (e :: es) X.env = (false, eval e X.env) :: starEach es X.env := by rfl) (hpl : (backTo pos (starEach es X.env)).any (·.1) = false := by rfl) : DE X (.Call (.Name x p) (e :: es) [] pos) (gApp g gs) :=
  pe_imp (pe_call G hr hg hm hk hb .nil pass0 ha hdb he hpl) fun σ H Q q => by
    obtain ⟨F, ρ, d, ρ', s, eg, k⟩ := q
    obtain ⟨⟨ds, ρ1⟩, e1, eg1⟩ := bind_some eg
    obtain ⟨z, e3, eg2⟩ := bind_some eg1
    cases eg2
    exact ⟨F, ρ, ds, _, s, e1, fun vs F1 H1 p1 s1 r1 => ⟨by rw [List.append_nil, da_len r1]; exact hlen _ _ _ e1, F1, ds, _, s1.sub, by rw [List.append_nil]; exact r1, e3, fun w F3 H3 gr rw' => k w F3 H3 (p1.trans (gr.stp σ _)) (s1.grow gr) rw'⟩⟩
theorem len_nil : ∀ ρ ds ρ', gNil ρ = some (ds, ρ') → ds.length = 0 := fun ρ ds ρ' h => by
  cases h
  rfl
theorem len_cons {g : Md D} {gs : Md (List D)} {n : Nat} (h : ∀ ρ ds ρ', gs ρ = some (ds, ρ') → ds.length = n) : ∀ ρ ds ρ', gCons g gs ρ = some (ds, ρ') → ds.length = n + 1 := fun ρ ds ρ' e => by
  obtain ⟨⟨x, ρ1⟩, e1, eg1⟩ := bind_some e
  obtain ⟨⟨y, ρ2⟩, e2, eg2⟩ := bind_some eg1
  cases eg2
  exact congrArg (· + 1) (h _ _ _ e2)
def setC (i : Nat) (c : Cell) (ρ : Env) : Option Env := match ρ[i]? with
  | some (some (.own true _)) => none
  | some _ => some (ρ.set i (some c))
  | none => none
def gCallIO (i : Nat) (f : D → List D → Option (D × D)) (gs : Md (List D)) : Md D := fun ρ => match ρ[i]? with
  | some (some (.own _ _)) => (gs ρ).bind fun p => match p.2[i]? with
    | some (some (.own b d)) => (f d p.1).bind fun r => some (r.1, p.2.set i (some (.own b r.2)))
    | _ => none
  | _ => none
theorem st_own_set {K : Kx} {F H F' H' : Hp} {σ : L2.St} {ρ : Env} {i : Nat} {b : Bool} {d d' : D} {a : Addr} (s : St K F H σ ρ) (e : ρ[i]? = some (some (.own b d))) (ea : σ[i]? = some (some (.ref a))) (sf : Same F F') (sh : Same F' H')
    (kp : ∀ c o, H c = some o → c ≠ a → H' c = some o ∧ F' c = F c) (o : OwnAt K F' H' a d') : St K F' H' σ (ρ.set i (some (.own b d'))) ∧ Stp F σ ρ H F' σ (ρ.set i (some (.own b d'))) H' := by
  have sub : ∀ c, Owns σ (ρ.set i (some (.own b d'))) c → Owns σ ρ c := fun c h => by
    obtain ⟨j, f, dj, h1, h2⟩ := h
    by_cases z : j = i
    · subst z
      exact ⟨j, b, d, e, h2⟩
    · rw [get_set_ne z] at h1
      exact ⟨j, f, dj, h1, h2⟩
  refine ⟨⟨sh, by rw [List.length_set]; exact s.len, fun j c hj => ?_, fun j l f g dj dl x h1 h2 h3 h4 => ?_⟩, ⟨sf, fun c u hc nc => kp c u hc fun z => nc (by subst z; exact ⟨i, b, d, e, ea⟩), fun c h => .inl (sub c h), fun j dj hj => ⟨rfl, ?_⟩, fun c u hc => ?_⟩⟩
  · by_cases z : j = i
    · subst z
      rw [get_set_self e] at hj
      cases hj
      exact ⟨a, ea, o⟩
    · rw [get_set_ne z] at hj
      have q := s.cell j c hj
      cases c with
      | val dj =>
        obtain ⟨v, e2, r2⟩ := q
        exact ⟨v, e2, dp_mono sf _ _ r2⟩
      | own f dj =>
        obtain ⟨c, e2, ow⟩ := q
        have ne : c ≠ a := fun y => z (by subst y; exact s.dist j i f b dj d _ hj e e2 ea)
        obtain ⟨u, e4⟩ := ow.there
        obtain ⟨g1, g2⟩ := kp c _ e4 ne
        exact ⟨c, e2, g2.trans ow.1, ow.2.mono sf fun o e5 => (kp c o e5 ne).1⟩
  · have h1' : ∃ f dj, ρ[j]? = some (some (.own f dj)) := by
      by_cases z : j = i
      · subst z; exact ⟨b, d, e⟩
      · rw [get_set_ne z] at h1; exact ⟨f, dj, h1⟩
    have h2' : ∃ f dj, ρ[l]? = some (some (.own f dj)) := by
      by_cases z : l = i
      · subst z; exact ⟨b, d, e⟩
      · rw [get_set_ne z] at h2; exact ⟨g, dl, h2⟩
    obtain ⟨f1, d1, g1⟩ := h1'
    obtain ⟨f2, d2, g2⟩ := h2'
    exact s.dist j l f1 f2 d1 d2 x g1 g2 h3 h4
  · by_cases z : j = i
    · subst z
      rw [e] at hj
      cases hj
      exact ⟨d', get_set_self e⟩
    · rw [get_set_ne z]
      exact ⟨dj, hj⟩
  · by_cases z : c = a
    · subst z
      exact o.there
    · exact ⟨u, (kp c u hc z).1⟩
theorem fl_base {K : Kx} {E : Ends} {H H1 F' : Hp} {σ' : L2.St} {H' : Hp} {f : Fl} (h : FlOk K E H F' σ' H' f) (p : ∀ a, H1 a = none → H a = none) : FlOk K E H1 F' σ' H' f := by
  cases f with
  | rof d => exact fun a o n => h a o (p a n)
  | nx => exact h
  | ret d => exact h
  | brk => exact h
  | cnt => exact h
def sNext : Sd := fun ρ => some (.nx, ρ)
def sSeq (s t : Sd) : Sd := fun ρ => (s ρ).bind fun p => match p.1 with
  | .nx => t p.2
  | f => some (f, p.2)
def sIf (g : Md Bool) (s t : Sd) : Sd := fun ρ => (g ρ).bind fun p => if p.1 = true then s p.2 else t p.2
def sRet (g : Md D) : Sd := fun ρ => (g ρ).bind fun p => some (.ret p.1, p.2)
def sDrop (g : Md D) : Sd := fun ρ => (g ρ).bind fun p => some (.nx, p.2)
def sSet (i : Nat) (g : Md D) : Sd := fun ρ => (g ρ).bind fun p => (setC i (.val p.1) p.2).bind fun r => some (.nx, r)
def sOwn (i : Nat) (g : Md D) : Sd := fun ρ => (g ρ).bind fun p => (setC i (.own false p.1) p.2).bind fun r => some (.nx, r)
def sBrk : Sd := fun ρ => some (.brk, ρ)
def sCnt : Sd := fun ρ => some (.cnt, ρ)
variable {st : Stmt} {sts : List Stmt}
theorem dss_nil : DSs X [] sNext := pss_imp pss_nil fun E σ H q => by
  obtain ⟨F, ρ, f, ρ', s, eg, k⟩ := q
  cases eg
  exact k σ F H Stp.refl s
theorem dss_cons {g h : Sd} (h1 : DS X st g) (h2 : DSs X sts h) : DSs X (st :: sts) (sSeq g h) := pss_imp (pss_cons h1 h2) fun E σ H q => by
  obtain ⟨F, ρ, f, ρ', s, eg, k⟩ := q
  obtain ⟨⟨f1, ρ1⟩, e1, eg1⟩ := bind_some eg
  refine ⟨F, ρ, f1, ρ1, s, e1, fun σ1 F1 H1 p1 s1 => ?_⟩
  cases f1 with
  | nx => exact ⟨F1, ρ1, f, ρ', s1, eg1, fun σ2 F2 H2 p2 s2 => fl_base (k σ2 F2 H2 (p1.trans p2) s2) fun _ => p1.none⟩
  | ret d =>
    cases eg1
    exact k σ1 F1 H1 p1 s1
  | rof d =>
    cases eg1
    exact k σ1 F1 H1 p1 s1
  | brk =>
    cases eg1
    exact k σ1 F1 H1 p1 s1
  | cnt =>
    cases eg1
    exact k σ1 F1 H1 p1 s1
theorem dss_one {g : Sd} (h1 : DS X st g) : DSs X [st] g := pss_one h1
theorem ds_if {g : Md Bool} {s1 s2 : Sd} {as bs : List Stmt} (hc : DT X c g) (ha : DSs X as s1) (hb : DSs X bs s2) : DS X (.If c as bs pos) (sIf g s1 s2) := ps_imp (ps_if hc ha hb) fun E σ H q => by
  obtain ⟨F, ρ, f, ρ', s, eg, k⟩ := q
  obtain ⟨⟨b, ρ1⟩, e1, eg1⟩ := bind_some eg
  refine ⟨F, ρ, b, ρ1, s, e1, fun F1 H1 p1 s1 => ?_⟩
  cases b with
  | true => exact ⟨F1, ρ1, f, ρ', s1, eg1, fun σ2 F2 H2 p2 s2 => fl_base (k σ2 F2 H2 (p1.trans p2) s2) fun _ => p1.none⟩
  | false => exact ⟨F1, ρ1, f, ρ', s1, eg1, fun σ2 F2 H2 p2 s2 => fl_base (k σ2 F2 H2 (p1.trans p2) s2) fun _ => p1.none⟩
theorem ds_ret {g : Md D} (h : DE X e g) : DS X (.Return (some e) pos) (sRet g) := ps_imp (ps_ret h) fun E σ H q => by
  obtain ⟨F, ρ, f, ρ', s, eg, k⟩ := q
  obtain ⟨⟨d, ρ1⟩, e1, eg1⟩ := bind_some eg
  cases eg1
  exact ⟨F, ρ, d, _, s, e1, fun v F1 H1 p1 s1 r1 => k σ F1 H1 p1 s1 v r1⟩
def sRof (g : Md D) : Sd := fun ρ => (g ρ).bind fun p => some (.rof p.1, p.2)
theorem setC_some {i : Nat} {c : Cell} {ρ ρ' : Env} (h : setC i c ρ = some ρ') : ρ' = ρ.set i (some c) ∧ (∀ d, ρ[i]? ≠ some (some (.own true d))) ∧ ∃ o, ρ[i]? = some o := by
  unfold setC at h
  split at h
  · cases h
  · rename_i o q n
    refine ⟨(Option.some.inj h).symm, fun d z => ?_, _, n⟩
    rw [n] at z
    cases z
    exact q d rfl
  · cases h
theorem st_set {K : Kx} {F H : Hp} {σ : L2.St} {ρ ρ' : Env} {i : Nat} {c : Cell} {v : V} (s : St K F H σ ρ) (h : setC i c ρ = some ρ') (hc : CellOk K F H (some (some v)) c) (hn : ∀ f d a, c = .own f d → v = .ref a → f = false ∧ ¬ Owns σ ρ a) : St K F H (σ.set i (some v)) ρ' := by
  obtain ⟨rfl, nf, o, ho⟩ := setC_some h
  have hi : i < σ.length := by
    rw [← s.len]
    exact (List.getElem?_eq_some_iff.mp ho).1
  have hσ : (σ.set i (some v))[i]? = some (some v) := List.getElem?_set_self hi
  refine ⟨s.sub, by rw [List.length_set, List.length_set]; exact s.len, fun j cj hj => ?_, fun j l f g dj dl b h1 h2 h3 h4 => ?_⟩
  · by_cases z : j = i
    · subst z
      rw [get_set_self ho] at hj
      cases hj
      rw [hσ]
      exact hc
    · rw [get_set_ne z] at hj ⊢
      exact s.cell j cj hj
  · by_cases z1 : j = i
    · subst z1
      rw [get_set_self ho] at h1
      rw [hσ] at h3
      by_cases z2 : l = j
      · exact z2.symm
      · rw [get_set_ne z2] at h2 h4
        cases h1
        cases h3
        exact absurd ⟨l, g, dl, h2, h4⟩ (hn f dj b rfl rfl).2
    · rw [get_set_ne z1] at h1 h3
      by_cases z2 : l = i
      · subst z2
        rw [get_set_self ho] at h2
        rw [hσ] at h4
        cases h2
        cases h4
        exact absurd ⟨j, f, dj, h1, h3⟩ (hn g dl b rfl rfl).2
      · rw [get_set_ne z2] at h2 h4
        exact s.dist j l f g dj dl b h1 h2 h3 h4
theorem stp_set {F H : Hp} {σ : L2.St} {ρ ρ' : Env} {i : Nat} {c : Cell} {v : V} {H0 : Hp} {F0 : Hp} {σ0 : L2.St} {ρ0 : Env} (p : Stp F0 σ0 ρ0 H0 F σ ρ H) (h : setC i c ρ = some ρ') (hn : ∀ f d a, c = .own f d → v = .ref a → H0 a = none) : Stp F0 σ0 ρ0 H0 F (σ.set i (some v)) ρ' H := by
  obtain ⟨rfl, nf, o, ho⟩ := setC_some h
  refine ⟨p.ff, p.keep, fun b hb => ?_, fun j d hj => ?_, p.dom⟩
  · obtain ⟨j, f, dj, h1, h2⟩ := hb
    by_cases z : j = i
    · subst z
      rw [get_set_self ho] at h1
      cases h1
      have h3 : v = .ref b := by
        by_cases hl : j < σ.length
        · rw [List.getElem?_set_self hl] at h2
          exact Option.some.inj (Option.some.inj h2)
        · rw [List.getElem?_eq_none (by simpa using hl)] at h2
          cases h2
      exact .inr (hn f dj b rfl h3)
    · rw [get_set_ne z] at h1 h2
      exact p.fresh b ⟨j, f, dj, h1, h2⟩
  · obtain ⟨e1, d', e2⟩ := p.fix j d hj
    have z : j ≠ i := fun z => by
      subst z
      exact nf d' e2
    rw [get_set_ne z, get_set_ne z]
    exact ⟨e1, d', e2⟩
theorem ds_set {i : Nat} {pos' : Pos} {g : Md D} (hN : X.N.Nodup) (hi : X.N[i]? = some x) (hx : Loc X.env.scope x) (he : DE X e g) (hs : swapsWith e (some (.Name x pos')) pos.line X.env = pure false := by rfl) (hf : X.fn x = true ∨ X.env.scope.names.lookup x = some .local := by first | exact .inl rfl | exact .inr rfl | assumption) : DS X (.Assign [.Name x pos'] e pos) (sSet i g) :=
  ps_imp (ps_set hN hi hx he hs hf) fun E σ H q => by
    obtain ⟨F, ρ, f, ρ', s, eg, k⟩ := q
    obtain ⟨⟨d, ρ1⟩, e1, eg1⟩ := bind_some eg
    obtain ⟨r, e2, eg2⟩ := bind_some eg1
    cases eg2
    exact ⟨F, ρ, d, ρ1, s, e1, fun v F1 H1 p1 s1 r1 => k _ F1 H1 (stp_set p1 e2 fun _ _ _ z => nomatch z) (st_set s1 e2 ⟨v, rfl, r1⟩ fun _ _ _ z => nomatch z)⟩
theorem ds_own {i : Nat} {pos' : Pos} {g : Md D} (hN : X.N.Nodup) (hi : X.N[i]? = some x) (hx : Loc X.env.scope x) (he : DF X e g) (hs : swapsWith e (some (.Name x pos')) pos.line X.env = pure false := by rfl) (hf : X.fn x = true ∨ X.env.scope.names.lookup x = some .local := by first | exact .inl rfl | exact .inr rfl | assumption) : DS X (.Assign [.Name x pos'] e pos) (sOwn i g) :=
  ps_imp (ps_set hN hi hx he hs hf) fun E σ H q => by
    obtain ⟨F, ρ, f, ρ', s, eg, k⟩ := q
    obtain ⟨⟨d, ρ1⟩, e1, eg1⟩ := bind_some eg
    obtain ⟨r, e2, eg2⟩ := bind_some eg1
    cases eg2
    refine ⟨F, ρ, d, ρ1, s, e1, fun a F1 H1 p1 s1 o no hn => k _ F1 H1 (stp_set p1 e2 fun _ _ b _ z => ?_) (st_set s1 e2 ⟨a, rfl, o.1⟩ fun f _ b z1 z => ?_)⟩
    · cases z
      exact hn
    · cases z
      cases z1
      exact ⟨rfl, no⟩
def sApp (i : Nat) (g : Md D) : Sd := fun ρ => match ρ[i]? with
  | some (some (.own _ (.list _))) => (g ρ).bind fun p => match p.2[i]? with
    | some (some (.own b (.list ds))) => if ds.length < 16777216 then some (.nx, p.2.set i (some (.own b (.list (ds ++ [p.1]))))) else none
    | _ => none
  | _ => none
theorem own_lst {K : Kx} {F H : Hp} {a : Addr} {ds : List D} (h : OwnAt K F H a (.list ds)) : F a = none ∧ ∃ xs, H a = some (.lst xs) ∧ RpAll K F xs ds := by
  obtain ⟨f, h⟩ := h
  rcases h with ⟨xs, ds', e, hh, r⟩ | ⟨xs, es, e, _⟩ | ⟨xs, es, e, _⟩
  · cases e
    exact ⟨f, xs, hh, r⟩
  · cases e
  · cases e
theorem own_write {K : Kx} {F H : Hp} {a : Addr} {xs : List V} {ds : List D} {o : HO} (s : Same F H) (hF : F a = none) (hH : H a = some o) (r : RpAll K F xs ds) : OwnAt K F (upd H a (.lst xs)) a (.list ds) ∧ Same F (upd H a (.lst xs)) ∧ ∀ c u, H c = some u → c ≠ a → upd H a (.lst xs) c = some u ∧ F c = F c :=
  ⟨⟨hF, .inl ⟨xs, ds, rfl, upd_same, r⟩⟩, fun c u hc => by rw [upd_ne (ne_of_none hc hF)]; exact s c u hc, fun c u hc n => ⟨by rw [upd_ne n]; exact hc, rfl⟩⟩
theorem ds_app (i : Nat) {ce : Expr} {g : Md D} (he : PE X ce (tBM (cxK X) "list" rAppend (tVar i) (tCons (tD (cxK X) g) tNil))) (hs : swapsWith ce none pos.line X.env = pure false := by rfl) : DS X (.Expr ce pos) (sApp i g) :=
  ps_imp (ps_expr he hs) fun E σ H q => by
    obtain ⟨F, ρ, f, ρ', s, eg, k⟩ := q
    unfold sApp at eg
    split at eg
    · rename_i b0 d0 h0
      obtain ⟨a, ea, o0, _⟩ := st_owned s h0
      obtain ⟨_, xs0, hx0, _⟩ := own_lst o0
      obtain ⟨⟨d, ρ1⟩, e1, eg1⟩ := bind_some eg
      simp only at eg1
      split at eg1
      · rename_i b1 ds h1
        split at eg1
        · rename_i hl
          cases eg1
          refine ⟨.ref a, ea, .inl ⟨rfl, xs0, SqL.of hx0⟩, F, ρ, d, ρ1, s, e1, fun v F1 H1 p1 s1 r1 => ?_⟩
          obtain ⟨a1, ea1, o1, _⟩ := st_owned s1 h1
          rw [ea] at ea1
          cases ea1
          obtain ⟨f1, xs, hx, rx⟩ := own_lst o1
          refine ⟨a, xs, v, rfl, rfl, hx, by rw [line_eq, da_len rx]; exact hl, ?_⟩
          obtain ⟨o2, sh, kp⟩ := own_write s1.sub f1 hx (da_app rx (.cons r1 .nil))
          obtain ⟨s2, p2⟩ := st_own_set s1 h1 ea (Same.refl _) sh kp o2
          exact k σ F1 _ (p1.trans p2) s2
        · cases eg1
      · cases eg1
    · cases eg
def ixS (n : Nat) (i : Int) : Option Nat := if 0 ≤ i then (if i < n then some i.toNat else none) else if -(n : Int) ≤ i then some (i + n).toNat else none
def sSetIx (i : Nat) (gv gi : Md D) : Sd := fun ρ => (gv ρ).bind fun p => match p.2[i]? with
  | some (some (.own _ _)) => (gi p.2).bind fun q => (iOf q.1).bind fun z => match q.2[i]? with
    | some (some (.own b (.list ds))) => (ixS ds.length z).bind fun j => some (.nx, q.2.set i (some (.own b (.list (ds.set j p.1)))))
    | _ => none
  | _ => none
end
end Dn
set_option maxHeartbeats 2000000
namespace Dn
open PySem PySem.Spec PyProof.Rows L2
section
variable {X : Cx} {e a b c tg iter : Expr} {es : List Expr} {pos p : Pos} {x : Str}
def gTN (i : Nat) : D → Env → Option Env := fun d ρ => setC i (.val d) ρ
def tDGs (K : Kx) (is : List Nat) (g : List D → Env → Option Env) : TGs := fun vs σ H Q => ∃ (F : Hp) (ρ : Env) (ds : List D) (ρ' : Env), St K F H σ ρ ∧ RpAll K F vs ds ∧ g ds ρ = some ρ' ∧
  ∀ σ' F' H', Stp F σ ρ H F' σ' ρ' H' → St K F' H' σ' ρ' → (σ'.length = σ.length ∧ ∀ j, j ∉ is → σ'[j]? = σ[j]?) → Q σ' H'
abbrev DGs (X : Cx) (es : List Expr) (is : List Nat) (g : List D → Env → Option Env) : Prop := PGs X es (tDGs (cxK X) is g)
theorem pgs_imp {X : Cx} {e : List Expr} {t t' : TGs} (h : PGs X e t) (i : ∀ v σ H Q, t' v σ H Q → t v σ H Q) : PGs X e t' := ⟨fun pins s σ H v u Q I r q => h.run pins s σ H v u Q I r (i v σ H Q q)⟩
theorem dg_name {i : Nat} (hN : X.N.Nodup) (hi : X.N[i]? = some x) (hx : Loc X.env.scope x) (hf : X.fn x = true ∨ X.env.scope.names.lookup x = some .local := by first | exact .inl rfl | exact .inr rfl | assumption) : DG X (.Name x pos) [i] (gTN i) :=
  pg_imp (pg_name hN hi hx hf) fun v σ H Q q => by
    obtain ⟨F, ρ, d, ρ', s, hd, eg, k⟩ := q
    exact k _ F H (stp_set Stp.refl eg fun _ _ _ z => nomatch z) (st_set s eg ⟨v, rfl, hd⟩ fun _ _ _ z => nomatch z) ⟨List.length_set, fun j hj => get_set_ne (by simpa using hj)⟩
def gTNil : List D → Env → Option Env
  | [], ρ => some ρ
  | _ :: _, _ => none
def gTCons (g : D → Env → Option Env) (gs : List D → Env → Option Env) : List D → Env → Option Env
  | d :: ds, ρ => (g d ρ).bind fun ρ1 => gs ds ρ1
  | [], _ => none
def gTTup (n : Nat) (gs : List D → Env → Option Env) : D → Env → Option Env
  | .tuple ds, ρ => if ds.length = n then gs ds ρ else none
  | _, _ => none
theorem dgs_nil : DGs X [] [] gTNil := pgs_imp pgs_nil fun vs σ H Q q => by
  obtain ⟨F, ρ, ds, ρ', s, hd, eg, k⟩ := q
  cases hd with
  | nil =>
    cases eg
    exact ⟨rfl, k σ F H Stp.refl s ⟨rfl, fun _ _ => rfl⟩⟩
  | cons _ _ => cases eg
theorem dgs_cons {is js : List Nat} {g : D → Env → Option Env} {gs : List D → Env → Option Env} (h1 : DG X e is g) (h2 : DGs X es js gs) (hs : (assignEach (e :: es) X.env).map (·.2) = assign e X.env :: (assignEach es X.env).map (·.2) := by rfl) : DGs X (e :: es) (is ++ js) (gTCons g gs) :=
  pgs_imp (pgs_cons h1 h2 hs) fun vs σ H Q q => by
    obtain ⟨F, ρ, ds, ρ', s, hd, eg, k⟩ := q
    cases hd with
    | nil => cases eg
    | cons r rs =>
      obtain ⟨ρ1, e1, eg1⟩ := bind_some eg
      exact ⟨_, _, rfl, F, ρ, _, ρ1, s, r, e1, fun σ1 F1 H1 p1 s1 w1 => ⟨F1, ρ1, _, ρ', s1, dpAll_mono p1.ff _ _ rs, eg1, fun σ2 F2 H2 p2 s2 w2 => k σ2 F2 H2 (p1.trans p2) s2 ⟨w2.1.trans w1.1, fun j hj => by
        rw [List.mem_append, not_or] at hj
        exact (w2.2 j hj.2).trans (w1.2 j hj.1)⟩⟩⟩
theorem dg_tup {k : Nat} {is : List Nat} {gs : List D → Env → Option Env} {n : Nat} (hc : X.calm = true) (h : DGs X es is gs) (hn : (assignEach es X.env).length = n := by rfl) (hst : (assignEach es X.env).findIdx? (·.1) = none := by rfl) : DG X (.Tuple es k pos) is (gTTup n gs) :=
  pg_imp (pg_tup hc h hn hst) fun v σ H Q q => by
    obtain ⟨F, ρ, d, ρ', s, hd, eg, k⟩ := q
    cases d with
    | tuple ds =>
      have eg' : (if ds.length = n then gs ds ρ else none) = some ρ' := eg
      split at eg'
      · rename_i hl
        cases hd with
        | @tup a vs _ h1 d1 => exact ⟨a, vs, rfl, seqT_same s.sub h1, by rw [da_len d1]; exact hl, F, ρ, ds, ρ', s, d1, eg', k⟩
      · cases eg'
    | none => cases eg
    | bool _ => cases eg
    | int _ => cases eg
    | str _ => cases eg
    | list _ => cases eg
    | dict _ => cases eg
def sAsg (g : Md D) (t : D → Env → Option Env) : Sd := fun ρ => (g ρ).bind fun p => (t p.1 p.2).bind fun r => some (.nx, r)
theorem ds_asg {is : List Nat} {g : Md D} {t : D → Env → Option Env} {st : Stmt} (h : PS X st (tAsg (tD (cxK X) g) (tDG (cxK X) is t))) : DS X st (sAsg g t) :=
  ps_imp h fun E σ H q => by
    obtain ⟨F, ρ, f, ρ', s, eg, k⟩ := q
    obtain ⟨⟨d, ρ1⟩, e1, eg1⟩ := bind_some eg
    obtain ⟨r, e2, eg2⟩ := bind_some eg1
    cases eg2
    exact ⟨F, ρ, d, ρ1, s, e1, fun v F1 H1 p1 s1 r1 => ⟨F1, ρ1, d, _, s1, r1, e2, fun σ2 F2 H2 p2 s2 _ => k σ2 F2 H2 (p1.trans p2) s2⟩⟩
def ItOk (K : Kx) (F : Hp) (J : It) (ds : List D) : Prop := ∀ F1 H, Same F F1 → Same F1 H → ∀ i, (∀ d, ds[i]? = some d → J.go i H ∧ ∀ x H', J.yld i H x H' → ∃ F', Grow F1 H F' H' ∧ Rp K F' x d) ∧ (ds.length ≤ i → J.stop i H)
def tDI (K : Kx) (g : Md (List D)) : TI := fun σ H R => ∃ (F : Hp) (ρ : Env) (ds : List D) (ρ' : Env), St K F H σ ρ ∧ g ρ = some (ds, ρ') ∧
  ∀ J F' H', Stp F σ ρ H F' σ ρ' H' → St K F' H' σ ρ' → ItOk K F' J ds → R J H'
abbrev DI (X : Cx) (tg e : Expr) (g : Md (List D)) : Prop := PI X tg e (tDI (cxK X) g)
theorem pi_imp {X : Cx} {tg e : Expr} {t t' : TI} (h : PI X tg e t) (i : ∀ σ H Q, t' σ H Q → t σ H Q) : PI X tg e t' := ⟨fun pins s σ H Q I q => h.run pins s σ H Q I (i σ H Q q)⟩
def signsL (x : Str) : List D := x.cps.toList.map fun c => .str ⟨#[c]⟩
def seqOf : D → Option (List D)
  | .list ds => some ds
  | .tuple ds => some ds
  | .str x => some (signsL x)
  | _ => none
def gSeq (g : Md D) : Md (List D) := fun ρ => (g ρ).bind fun p => (seqOf p.1).bind fun ds => some (ds, p.2)
def iSeq (K : Kx) (tl : TE) : TI := fun σ H R => tl σ H fun v H1 => (∃ x, v = .str x ∧ R (Its x) H1) ∨ ∃ a, v = .ref a ∧ (((∃ xs, SqL K H1 a xs) ∧ R (Itl K a) H1) ∨ ((∃ xs, SqT K H1 a xs) ∧ R (Itt K a) H1))
theorem pi_seq {l : Expr} {tl : TE} (hl : PE X l tl) : PI X tg l (iSeq (cxK X) tl) := by
  refine ⟨fun pins s σ H R I h => ?_⟩
  refine thn (hl.run pins s σ H _ I h) fun v s1 ⟨y, H1, I1, r1, q1⟩ => ?_
  rcases q1 with ⟨x, ex, q⟩ | ⟨a, e, q⟩
  · subst ex
    obtain ⟨t, rfl⟩ := r1
    cases ha : x.cps.all (· < 128)
    · exact wpAny_pyIter_wide ha (pi_one (tk := s1.toks) I1 _ (turn_str _ x t "str_iterator" (.inr rfl)) ⟨_, Heap.get?_push_size _ rfl, rfl, rfl⟩ q)
    · exact wpAny_pyIter_ascii ha (pi_one (tk := s1.toks) I1 _ (turn_str _ x t "str_ascii_iterator" (.inl rfl)) ⟨_, Heap.get?_push_size _ rfl, rfl, rfl⟩ q)
  subst e
  cases r1
  have fp : ∀ b ∈ [s1.heap.objs.size], FpOk X pins H1 b := fun b hb => by
    have e : b = s1.heap.objs.size := by simpa using hb
    subst e
    exact I1.fpOk (Nat.le_refl _) (I1.hok.fresh (Nat.le_refl _))
  rcases q with ⟨⟨xs, hq⟩, q⟩ | ⟨⟨xs, hq⟩, q⟩
  · obtain ⟨its, rv, p, hz⟩ := I1.list hq
    refine wpAny_pyIter_list p.isList ?_
    exact ⟨s1.heap.objs.size, [s1.heap.objs.size], _, _, H1, rfl, I1.kept (t' := s1.toks) fun b o e => Heap.get?_push_of_some _ e, turn_list a _, ⟨_, Heap.get?_push_size _ rfl, rfl, rfl⟩, fp, q⟩
  · obtain ⟨its, rv, p, hz⟩ := I1.tuple hq
    refine wpAny_pyIter_tuple (show s1.heap.IsTuple a its.toArray from p) ?_
    exact ⟨s1.heap.objs.size, [s1.heap.objs.size], _, _, H1, rfl, I1.kept (t' := s1.toks) fun b o e => Heap.get?_push_of_some _ e, turn_tuple a _, ⟨_, Heap.get?_push_size _ rfl, rfl, rfl⟩, fp, q⟩
theorem it_str {K : Kx} {F : Hp} {x : Str} : ItOk K F (Its x) (signsL x) := fun F1 H s1 s2 i => by
  have hl : (signsL x).length = x.cps.size := by simp [signsL]
  refine ⟨fun d e => ?_, fun h => by rw [hl] at h; exact h⟩
  have hi : i < x.cps.size := by
    have := (List.getElem?_eq_some_iff.mp e).1
    rw [hl] at this
    exact this
  refine ⟨hi, fun y H' hy => ?_⟩
  obtain ⟨rfl, c, hc, rfl⟩ := hy
  have e2 : d = .str ⟨#[c]⟩ := by
    unfold signsL at e
    rw [List.getElem?_map, Array.getElem?_toList, hc] at e
    exact (Option.some.inj e).symm
  subst e2
  exact ⟨F1, Grow.refl s2, .str _⟩
theorem it_list {K : Kx} {F : Hp} {a : Addr} {vs : List V} {ds : List D} (h : SqL K F a vs) (r : RpAll K F vs ds) : ItOk K F (Itl K a) ds := fun F1 H s1 s2 i => by
  have hH := (s1.trans s2).seq h
  refine ⟨fun d e => ?_, fun hl => ⟨vs, hH, by rw [da_len r]; exact hl⟩⟩
  obtain ⟨v, e1, rv⟩ := da_at r e
  refine ⟨⟨vs, v, hH, e1⟩, fun y H' hy => ?_⟩
  obtain ⟨rfl, hy⟩ := hy
  have e2 := (hy vs hH).symm.trans e1
  cases e2
  exact ⟨F1, Grow.refl s2, dp_mono s1 _ _ rv⟩
theorem it_tup {K : Kx} {F : Hp} {a : Addr} {vs : List V} {ds : List D} (h : SqT K F a vs) (r : RpAll K F vs ds) : ItOk K F (Itt K a) ds := fun F1 H s1 s2 i => by
  have hH := seqT_same (s1.trans s2) h
  refine ⟨fun d e => ?_, fun hl => ⟨vs, hH, by rw [da_len r]; exact hl⟩⟩
  obtain ⟨v, e1, rv⟩ := da_at r e
  refine ⟨⟨vs, v, hH, e1⟩, fun y H' hy => ?_⟩
  obtain ⟨rfl, hy⟩ := hy
  have e2 := (hy vs hH).symm.trans e1
  cases e2
  exact ⟨F1, Grow.refl s2, dp_mono s1 _ _ rv⟩
theorem di_seq {g : Md D} (h : DE X e g) : DI X tg e (gSeq g) := pi_imp (pi_seq h) fun σ H R q => by
  obtain ⟨F, ρ, ds, ρ', s, eg, k⟩ := q
  obtain ⟨⟨d, ρ1⟩, e1, eg1⟩ := bind_some eg
  obtain ⟨z, e2, eg2⟩ := bind_some eg1
  cases eg2
  refine ⟨F, ρ, d, _, s, e1, fun v F1 H1 p1 s1 r1 => ?_⟩
  cases d with
  | list xs =>
    cases e2
    cases r1 with
    | @lst a vs _ h1 d1 => exact .inr ⟨a, rfl, .inl ⟨⟨vs, s1.sub.seq h1⟩, k _ F1 H1 p1 s1 (it_list h1 d1)⟩⟩
  | tuple xs =>
    cases e2
    cases r1 with
    | @tup a vs _ h1 d1 => exact .inr ⟨a, rfl, .inr ⟨⟨vs, seqT_same s1.sub h1⟩, k _ F1 H1 p1 s1 (it_tup h1 d1)⟩⟩
  | none => cases e2
  | bool _ => cases e2
  | int _ => cases e2
  | str z =>
    cases e2
    cases r1
    exact .inl ⟨z, rfl, k _ F1 H1 p1 s1 it_str⟩
  | dict _ => cases e2
/-- range(a), range(a, b) -/
def rngL (lo : Int) (n : Nat) : List D := (List.range n).map fun i : Nat => .int (lo + i)
def small62 (j : Int) : Bool := decide (-(2 ^ 62) ≤ j ∧ j < 2 ^ 62)
def gRng1 (gs : Md (List D)) : Md (List D) := fun ρ => (gs ρ).bind fun p => match p.1 with
  | [.int j] => if small62 j = true then some (rngL 0 j.toNat, p.2) else none
  | _ => none
def gRng2 (gs : Md (List D)) : Md (List D) := fun ρ => (gs ρ).bind fun p => match p.1 with
  | [.int i, .int j] => if small62 i = true ∧ small62 j = true then some (rngL i (j - i).toNat, p.2) else none
  | _ => none
theorem it_rng {K : Kx} {F : Hp} {lo : Int} {n : Nat} : ItOk K F (Itr lo n) (rngL lo n) := fun F1 H s1 s2 i => by
  have hl : (rngL lo n).length = n := by simp [rngL]
  refine ⟨fun d e => ?_, fun h => by rw [hl] at h; exact h⟩
  have hi : i < n := by
    have := (List.getElem?_eq_some_iff.mp e).1
    rw [hl] at this
    exact this
  have ed : d = .int (lo + i) := by
    unfold rngL at e
    rw [List.getElem?_map, List.getElem?_range hi] at e
    exact (Option.some.inj e).symm
  subst ed
  refine ⟨hi, fun y H' hy => ?_⟩
  obtain ⟨rfl, rfl⟩ := hy
  exact ⟨F1, Grow.refl s2, .int _⟩
theorem di_rng1 {gs : Md (List D)} {p pos : Pos} (hg : Gl X "range") (hm : X.mg "range" = none) (ha : DA X [a] gs) (hs : starEach [a] X.env = [(false, eval a X.env)] := by rfl) : DI X tg (.Call (.Name "range" p) [a] [] pos) (gRng1 gs) :=
  pi_imp (pi_range1 hg hm ha hs) fun σ H R q => by
    obtain ⟨F, ρ, ds, ρ', s, eg, k⟩ := q
    obtain ⟨⟨d, ρ1⟩, e1, eg1⟩ := bind_some eg
    simp only at eg1
    split at eg1
    · rename_i j
      split at eg1
      · rename_i hj
        cases eg1
        have hj' := of_decide_eq_true hj
        refine ⟨F, ρ, _, _, s, e1, fun vs F1 H1 p1 s1 r1 => ?_⟩
        obtain ⟨v, rfl, rv⟩ := da1 r1
        cases rv
        exact ⟨j, rfl, hj'.1, hj'.2, k _ F1 H1 p1 s1 it_rng⟩
      · cases eg1
    · cases eg1
theorem di_rng2 {gs : Md (List D)} {p pos : Pos} (hg : Gl X "range") (hm : X.mg "range" = none) (ha : DA X [a, b] gs) (hs : starEach [a, b] X.env = [(false, eval a X.env), (false, eval b X.env)] := by rfl) (hs2 : starEach [b] X.env = [(false, eval b X.env)] := by rfl) : DI X tg (.Call (.Name "range" p) [a, b] [] pos) (gRng2 gs) :=
  pi_imp (pi_range2 hg hm ha hs hs2) fun σ H R q => by
    obtain ⟨F, ρ, ds, ρ', s, eg, k⟩ := q
    obtain ⟨⟨d, ρ1⟩, e1, eg1⟩ := bind_some eg
    simp only at eg1
    split at eg1
    · rename_i i j
      split at eg1
      · rename_i hj
        cases eg1
        have hi' := of_decide_eq_true hj.1
        have hj' := of_decide_eq_true hj.2
        refine ⟨F, ρ, _, _, s, e1, fun vs F1 H1 p1 s1 r1 => ?_⟩
        obtain ⟨v, w, rfl, rv, rw'⟩ := da2 r1
        cases rv
        cases rw'
        exact ⟨i, j, rfl, ⟨hi'.1, hi'.2, hj'.1, hj'.2⟩, k _ F1 H1 p1 s1 it_rng⟩
      · cases eg1
    · cases eg1
def forD (tg : D → Env → Option Env) (body : Sd) : List D → Sd
  | [] => fun ρ => some (.nx, ρ)
  | d :: ds => fun ρ => (tg d ρ).bind fun ρ1 => (body ρ1).bind fun p => match p.1 with
    | .nx => forD tg body ds p.2
    | .cnt => forD tg body ds p.2
    | .brk => some (.nx, p.2)
    | .ret r => some (.ret r, p.2)
    | .rof r => some (.rof r, p.2)
def sFor (gi : Md (List D)) (tg : D → Env → Option Env) (body : Sd) : Sd := fun ρ => (gi ρ).bind fun p => forD tg body p.1 p.2
theorem drop_cons {α : Type} {l : List α} {i : Nat} {d : α} (h : l[i]? = some d) : l.drop i = d :: l.drop (i + 1) := by
  obtain ⟨hl, e⟩ := List.getElem?_eq_some_iff.mp h
  rw [List.drop_eq_getElem_cons hl, e]
theorem ds_for {gi : Md (List D)} {gt : D → Env → Option Env} {gb : Sd} {body : List Stmt} (hp : PassesOwn (model X.prog X.w) X.A X.env X.xe) (hc : X.calm = true) (hi : DI X tg iter gi) {is : List Nat} (hg : DG X tg is gt) (hb : DSs X body gb) (hs : ∀ x, foldedSetIterable iter X.env x = pure x := by intro _; rfl) : DS X (.For tg iter body [] pos) (sFor gi gt gb) :=
  ps_imp (ps_for hp hc hi hg hb hs) fun E σ H q => by
    obtain ⟨F, ρ, f, ρ', s, eg, k⟩ := q
    obtain ⟨⟨ds, ρ1⟩, e1, eg1⟩ := bind_some eg
    refine ⟨F, ρ, ds, ρ1, s, e1, fun J F1 H1 p1 s1 ok => ?_⟩
    refine ⟨fun i m σi Hi => ∃ Fi ρi, m = ds.length - i ∧ i ≤ ds.length ∧ Stp F σ ρ H Fi σi ρi Hi ∧ St (cxK X) Fi Hi σi ρi ∧ Same F1 Fi ∧ forD gt gb (ds.drop i) ρi = some (f, ρ'), ⟨ds.length, F1, ρ1, by simp, Nat.zero_le _, p1, s1, Same.refl _, by simpa using eg1⟩, ?_⟩
    rintro i m σi Hi ⟨Fi, ρi, rfl, hi, pi, si, sf, ei⟩
    by_cases hlt : i < ds.length
    · have hd : ds[i]? = some ds[i] := List.getElem?_eq_getElem hlt
      obtain ⟨ok1, _⟩ := ok Fi Hi sf si.sub i
      obtain ⟨go, yl⟩ := ok1 _ hd
      rw [drop_cons hd] at ei
      obtain ⟨ρ2, e2, ei1⟩ := bind_some ei
      obtain ⟨⟨f3, ρ3⟩, e3, ei2⟩ := bind_some ei1
      refine .inr ⟨go, fun σ' H' => ∃ F' ρ'', Stp F σ ρ H F' σ' ρ'' H' ∧ St (cxK X) F' H' σ' ρ'' ∧ Same F1 F' ∧ forD gt gb (ds.drop (i + 1)) ρ'' = some (f, ρ'), fun σ' H' ⟨F', ρ'', h1, h2, h3, h4⟩ => ⟨ds.length - (i + 1), by omega, F', ρ'', rfl, hlt, h1, h2, h3, h4⟩, fun v H' hy => ?_⟩
      obtain ⟨F', gr, rv⟩ := yl v H' hy
      have p' := pi.trans (gr.stp σi ρi)
      refine ⟨F', ρi, _, ρ2, si.grow gr, rv, e2, fun σ2 F2 H2 p2 s2 _ => ⟨F2, ρ2, f3, ρ3, s2, e3, fun σ3 F3 H3 p3 s3 => ?_⟩⟩
      have pp := p'.trans (p2.trans p3)
      have sff := sf.trans (gr.ff.trans (p2.ff.trans p3.ff))
      cases f3 with
      | nx => exact ⟨F3, ρ3, pp, s3, sff, ei2⟩
      | cnt => exact ⟨F3, ρ3, pp, s3, sff, ei2⟩
      | brk =>
        cases ei2
        exact k σ3 F3 H3 pp s3
      | ret r =>
        cases ei2
        exact k σ3 F3 H3 pp s3
      | rof r =>
        cases ei2
        exact fl_base (k σ3 F3 H3 pp s3) fun _ n => p'.none (p2.none n)
    · have hl : i = ds.length := by omega
      obtain ⟨_, st⟩ := ok Fi Hi sf si.sub i
      rw [List.drop_of_length_le (by omega)] at ei
      cases ei
      exact .inl ⟨st (by omega), k σi Fi Hi pi si⟩
def wipeE (ρ : Env) : List Nat → Env
  | [] => ρ
  | v :: vs => (wipeE ρ vs).set v none
def notOwn (ρ : Env) (i : Nat) : Bool := match ρ[i]? with
  | some (some (.own _ _)) => false
  | _ => true
def backE (ρ0 : Env) : List Nat → Env → Env
  | [], ρ => ρ
  | v :: vs, ρ => match ρ0[v]? with
    | some o => (backE ρ0 vs ρ).set v o
    | none => backE ρ0 vs ρ
def lcD (vs : List Nat) (tg : D → Env → Option Env) (tt : Md Bool) (te : Md D) : List D → Env → Option (List D × Env)
  | [], ρ => some ([], ρ)
  | d :: ds, ρ => (tg d ρ).bind fun ρ1 => (tt ρ1).bind fun p => if p.1 = true then (te p.2).bind fun q => (lcD vs tg tt te ds (wipeE q.2 vs)).bind fun r => some (q.1 :: r.1, r.2) else lcD vs tg tt te ds (wipeE p.2 vs)
def gLc (vs : List Nat) (gi : Md (List D)) (tg : D → Env → Option Env) (tt : Md Bool) (te : Md D) : Md D := fun ρ => (gi ρ).bind fun p =>
  if p.1.length ≤ 16777216 ∧ vs.all (notOwn p.2) = true then (lcD vs tg tt te p.1 (wipeE p.2 vs)).bind fun r => some (.list r.1, backE p.2 vs r.2) else none
def gTrue : Md Bool := fun ρ => some (true, ρ)
theorem wipeE_out {ρ : Env} {i : Nat} : ∀ {vs : List Nat}, i ∉ vs → (wipeE ρ vs)[i]? = ρ[i]?
  | [], _ => rfl
  | v :: vs, h => by
    unfold wipeE
    rw [List.getElem?_set_ne (fun z => h (by rw [z]; exact List.mem_cons_self)), wipeE_out fun z => h (List.mem_cons_of_mem _ z)]
theorem wipeE_in {ρ : Env} {i : Nat} {c : Cell} : ∀ {vs : List Nat}, (wipeE ρ vs)[i]? = some (some c) → i ∉ vs
  | [], _ => by simp
  | v :: vs, h => by
    unfold wipeE at h
    by_cases z : v = i
    · subst z
      by_cases hl : v < (wipeE ρ vs).length
      · rw [List.getElem?_set_self hl] at h
        cases h
      · rw [List.getElem?_eq_none (by simpa using hl)] at h
        cases h
    · rw [List.getElem?_set_ne z] at h
      have := wipeE_in h
      simp only [List.mem_cons, not_or]
      exact ⟨fun y => z y.symm, this⟩
theorem wipeE_len (ρ : Env) : ∀ vs : List Nat, (wipeE ρ vs).length = ρ.length
  | [] => rfl
  | v :: vs => by
    unfold wipeE
    rw [List.length_set, wipeE_len ρ vs]
theorem wipeE_cell {ρ : Env} {vs : List Nat} {i : Nat} {c : Cell} (h : (wipeE ρ vs)[i]? = some (some c)) : ρ[i]? = some (some c) ∧ i ∉ vs := by
  have n := wipeE_in h
  rw [wipeE_out n] at h
  exact ⟨h, n⟩
theorem backE_len (ρ0 ρ : Env) : ∀ vs : List Nat, (backE ρ0 vs ρ).length = ρ.length
  | [] => rfl
  | v :: vs => by
    unfold backE
    split
    · rw [List.length_set, backE_len ρ0 ρ vs]
    · exact backE_len ρ0 ρ vs
theorem backE_out {ρ0 ρ : Env} {i : Nat} : ∀ {vs : List Nat}, i ∉ vs → (backE ρ0 vs ρ)[i]? = ρ[i]?
  | [], _ => rfl
  | v :: vs, h => by
    unfold backE
    have h1 : i ∉ vs := fun z => h (List.mem_cons_of_mem _ z)
    split
    · rw [List.getElem?_set_ne (fun z => h (by rw [z]; exact List.mem_cons_self)), backE_out h1]
    · exact backE_out h1
theorem backE_in {ρ0 ρ : Env} {i : Nat} (hl : ρ.length = ρ0.length) : ∀ {vs : List Nat}, i ∈ vs → (backE ρ0 vs ρ)[i]? = ρ0[i]?
  | [], h => by simp at h
  | v :: vs, h => by
    unfold backE
    by_cases z : v = i
    · subst z
      split
      · rename_i o e
        rw [List.getElem?_set_self (by rw [backE_len, hl]; exact (List.getElem?_eq_some_iff.mp e).1), e]
      · rename_i e
        have hl2 : ρ0.length ≤ v := List.getElem?_eq_none_iff.mp e
        rw [e]
        exact List.getElem?_eq_none (by rw [backE_len, hl]; exact hl2)
    · have h1 : i ∈ vs := (List.mem_cons.mp h).resolve_left fun y => z y.symm
      split
      · rw [List.getElem?_set_ne z, backE_in hl h1]
      · exact backE_in hl h1
theorem wipe_out' {σ : L2.St} {i : Nat} {vs : List Nat} (h : i ∉ vs) : (wipe σ vs)[i]? = σ[i]? := wipe_out h
theorem st_wipe {K : Kx} {F H : Hp} {σ : L2.St} {ρ : Env} (s : St K F H σ ρ) (vs : List Nat) : St K F H (wipe σ vs) (wipeE ρ vs) where
  sub := s.sub
  len := by rw [wipeE_len, wipe_length]; exact s.len
  cell := fun i c e => by
    obtain ⟨e1, n⟩ := wipeE_cell e
    rw [wipe_out' n]
    exact s.cell i c e1
  dist := fun i j f g d e a h1 h2 h3 h4 => by
    obtain ⟨e1, n1⟩ := wipeE_cell h1
    obtain ⟨e2, n2⟩ := wipeE_cell h2
    rw [wipe_out' n1] at h3
    rw [wipe_out' n2] at h4
    exact s.dist i j f g d e a e1 e2 h3 h4
theorem not_own {ρ : Env} {vs : List Nat} (h : vs.all (notOwn ρ) = true) {i : Nat} (hi : i ∈ vs) {f : Bool} {d : D} : ρ[i]? ≠ some (some (.own f d)) := fun e => by
  have z := List.all_eq_true.mp h i hi
  unfold notOwn at z
  rw [e] at z
  cases z
theorem stp_wipe {F0 F : Hp} {σ0 σ : L2.St} {ρ0 ρ : Env} {H0 H : Hp} (p : Stp F0 σ0 ρ0 H0 F σ ρ H) {vs : List Nat} (hn : ∀ i d, ρ0[i]? = some (some (.own true d)) → i ∉ vs) : Stp F0 σ0 ρ0 H0 F (wipe σ vs) (wipeE ρ vs) H where
  ff := p.ff
  keep := p.keep
  fresh := fun b hb => by
    obtain ⟨i, f, d, e1, e2⟩ := hb
    obtain ⟨e3, n⟩ := wipeE_cell e1
    rw [wipe_out' n] at e2
    exact p.fresh b ⟨i, f, d, e3, e2⟩
  fix := fun i d h => by
    obtain ⟨e1, d', e2⟩ := p.fix i d h
    have n := hn i d h
    rw [wipe_out' n, wipeE_out n]
    exact ⟨e1, d', e2⟩
  dom := p.dom
theorem st_side {K : Kx} {F H : Hp} {σ : L2.St} {ρ : Env} {b : Addr} {o : HO} (s : St K F H σ ρ) (hF : F b = none) (n : ¬ Owns σ ρ b) : St K F (upd H b o) σ ρ where
  sub := fun c u h => by rw [upd_ne (fun z => by subst z; rw [hF] at h; cases h)]; exact s.sub c u h
  len := s.len
  cell := fun i c e => by
    have q := s.cell i c e
    cases c with
    | val d => exact q
    | own f d =>
      obtain ⟨a, e1, f0, ow⟩ := q
      refine ⟨a, e1, f0, ow.mono (Same.refl _) fun o e3 => ?_⟩
      rw [upd_ne (fun z => n (by subst z; exact ⟨i, f, d, e, e1⟩))]
      exact e3
  dist := s.dist
theorem stp_side {F0 F : Hp} {σ0 σ : L2.St} {ρ0 ρ : Env} {H0 H : Hp} (p : Stp F0 σ0 ρ0 H0 F σ ρ H) {b : Addr} {o : HO} (hb : H0 b = none) : Stp F0 σ0 ρ0 H0 F σ ρ (upd H b o) :=
  ⟨p.ff, fun c u h n => by rw [upd_ne (ne_of_none h hb)]; exact p.keep c u h n, p.fresh, p.fix, fun c u h => by rw [upd_ne (ne_of_none h hb)]; exact p.dom c u h⟩
theorem stp_back {F0 F : Hp} {σ : L2.St} {ρ0 ρ : Env} {H0 H : Hp} {vs : List Nat} (p : Stp F0 σ ρ0 H0 F (wipe σ vs) ρ H) (hl : ρ.length = ρ0.length) (hn : vs.all (notOwn ρ0) = true) : Stp F0 σ ρ0 H0 F σ (backE ρ0 vs ρ) H ∧ ∀ b, Owns σ (backE ρ0 vs ρ) b → Owns (wipe σ vs) ρ b := by
  have sub : ∀ b, Owns σ (backE ρ0 vs ρ) b → Owns (wipe σ vs) ρ b := fun b hb => by
    obtain ⟨i, f, d, e1, e2⟩ := hb
    by_cases hi : i ∈ vs
    · rw [backE_in hl hi] at e1
      exact absurd e1 (not_own hn hi)
    · rw [backE_out hi] at e1
      exact ⟨i, f, d, e1, by rw [wipe_out' hi]; exact e2⟩
  refine ⟨⟨p.ff, p.keep, fun b hb => p.fresh b (sub b hb), fun i d h => ?_, p.dom⟩, sub⟩
  have hi : i ∉ vs := fun z => not_own hn z h
  obtain ⟨e1, d', e2⟩ := p.fix i d h
  exact ⟨rfl, d', by rw [backE_out hi]; exact e2⟩
theorem st_back {K : Kx} {F0 F H0 H : Hp} {σ : L2.St} {ρ0 ρ : Env} {vs : List Nat} (s0 : St K F0 H0 σ ρ0) (s : St K F H (wipe σ vs) ρ) (sf : Same F0 F) (hn : vs.all (notOwn ρ0) = true) : St K F H σ (backE ρ0 vs ρ) := by
  have hl : ρ.length = ρ0.length := by rw [s.len, wipe_length, s0.len]
  have own : ∀ (i : Nat) (f : Bool) (d : D), (backE ρ0 vs ρ)[i]? = some (some (.own f d)) → i ∉ vs ∧ ρ[i]? = some (some (.own f d)) := fun i f d e => by
    by_cases hi : i ∈ vs
    · rw [backE_in hl hi] at e
      exact absurd e (not_own hn hi)
    · rw [backE_out hi] at e
      exact ⟨hi, e⟩
  refine ⟨s.sub, by rw [backE_len, hl]; exact s0.len, fun i c e => ?_, fun i j f g d e a h1 h2 h3 h4 => ?_⟩
  · by_cases hi : i ∈ vs
    · rw [backE_in hl hi] at e
      cases c with
      | val d =>
        obtain ⟨v, e1, r⟩ := s0.cell i _ e
        exact ⟨v, e1, dp_mono sf _ _ r⟩
      | own f d => exact absurd e (not_own hn hi)
    · rw [backE_out hi] at e
      have q := s.cell i c e
      rw [wipe_out' hi] at q
      exact q
  · obtain ⟨n1, e1⟩ := own i f d h1
    obtain ⟨n2, e2⟩ := own j g e h2
    exact s.dist i j f g d e a e1 e2 (by rw [wipe_out' n1]; exact h3) (by rw [wipe_out' n2]; exact h4)
theorem wipe_in' {σ : L2.St} {i : Nat} (hi : i < σ.length) : ∀ {vs : List Nat}, i ∈ vs → (wipe σ vs)[i]? = some none
  | [], h => by simp at h
  | v :: vs, h => by
    unfold wipe
    by_cases z : v = i
    · subst z
      exact List.getElem?_set_self (by rw [wipe_length]; exact hi)
    · rw [List.getElem?_set_ne z]
      exact wipe_in' hi ((List.mem_cons.mp h).resolve_left fun y => z y.symm)
theorem wipe_eq {σ σ2 : L2.St} {vs is : List Nat} (hs : ∀ j, j ∉ is → σ2[j]? = (wipe σ vs)[j]?) (hv : ∀ j ∈ is, j ∈ vs) (hl : σ2.length = σ.length) : wipe σ2 vs = wipe σ vs := by
  refine List.ext_getElem? fun j => ?_
  by_cases hj : j ∈ vs
  · by_cases h : j < σ.length
    · rw [wipe_in' h hj, wipe_in' (by rw [hl]; exact h) hj]
    · rw [List.getElem?_eq_none (by rw [wipe_length, hl]; omega), List.getElem?_eq_none (by rw [wipe_length]; omega)]
  · rw [wipe_out' hj]
    exact hs j fun z => hj (hv j z)
theorem lc_q {vs is : List Nat} (hv : ∀ j ∈ is, j ∈ vs) {gi : Md (List D)} {gt : D → Env → Option Env} {gc : Md Bool} {ge : Md D} {σ : L2.St} {H : Hp} {Q : VK} (q : tF (cxK X) (gLc vs gi gt gc ge) σ H Q) : tLc (tDI (cxK X) gi) (tDG (cxK X) is gt) (tDT (cxK X) gc) (tD (cxK X) ge) vs σ H Q := by
    obtain ⟨F, ρ, d, ρ', s, eg, k⟩ := q
    obtain ⟨⟨ds, ρ1⟩, e1, eg1⟩ := bind_some eg
    simp only at eg1
    split at eg1
    · rename_i hl
      obtain ⟨⟨rs, ρe⟩, e2, eg2⟩ := bind_some eg1
      cases eg2
      refine ⟨F, ρ, ds, ρ1, s, e1, fun J F1 H1 p1 s1 ok D hD => ?_⟩
      have hw := st_wipe s1 vs
      have hnv : ∀ i dd, ρ1[i]? = some (some (.own true dd)) → i ∉ vs := fun i dd e hi => not_own hl.2 hi e
      have p1w : Stp F1 σ ρ1 H1 F1 (wipe σ vs) (wipeE ρ1 vs) H1 := stp_wipe Stp.refl hnv
      have nD0 : ¬ Owns (wipe σ vs) (wipeE ρ1 vs) D := not_owns hw hD
      refine ⟨fun i m Hi => ∃ Fi ρi acc as rr, m = ds.length - i ∧ i ≤ ds.length ∧ Stp F1 σ ρ1 H1 Fi (wipe σ vs) ρi Hi ∧ St (cxK X) Fi Hi (wipe σ vs) ρi ∧ lcD vs gt gc ge (ds.drop i) ρi = some (rr, ρe) ∧ as ++ rr = rs ∧ (Fi D = none ∧ ¬ Owns (wipe σ vs) ρi D) ∧ Hi D = some (.lst acc) ∧ RpAll (cxK X) Fi acc as ∧ as.length ≤ i,
        ⟨ds.length, F1, wipeE ρ1 vs, [], [], rs, by simp, Nat.zero_le _, p1w.trans ((Grow.own s1.sub hD).stp _ _), hw.grow (Grow.own s1.sub hD), by simpa using e2, by simp, ⟨none_sub s1.sub hD, nD0⟩, upd_same, .nil, by simp⟩, ?_⟩
      rintro i m Hi ⟨Fi, ρi, acc, as, rr, rfl, hi, pi, si, ei, er, ⟨fD, nD⟩, hDi, ra, la⟩
      have sff : Same F1 Fi := pi.ff
      by_cases hlt : i < ds.length
      · have hd : ds[i]? = some ds[i] := List.getElem?_eq_getElem hlt
        obtain ⟨ok1, _⟩ := ok Fi Hi sff si.sub i
        obtain ⟨go, yl⟩ := ok1 _ hd
        rw [drop_cons hd] at ei
        obtain ⟨ρ2, e3, ei1⟩ := bind_some ei
        obtain ⟨⟨b, ρ3⟩, e4, ei2⟩ := bind_some ei1
        refine .inr ⟨go, fun H' => ∃ F' ρ'' acc' as' rr', Stp F1 σ ρ1 H1 F' (wipe σ vs) ρ'' H' ∧ St (cxK X) F' H' (wipe σ vs) ρ'' ∧ lcD vs gt gc ge (ds.drop (i + 1)) ρ'' = some (rr', ρe) ∧ as' ++ rr' = rs ∧ (F' D = none ∧ ¬ Owns (wipe σ vs) ρ'' D) ∧ H' D = some (.lst acc') ∧ RpAll (cxK X) F' acc' as' ∧ as'.length ≤ i + 1,
          fun H' ⟨F', ρ'', acc', as', rr', z1, z2, z3, z4, z5, z6, z7, z8⟩ => ⟨ds.length - (i + 1), by omega, F', ρ'', acc', as', rr', rfl, hlt, z1, z2, z3, z4, z5, z6, z7, z8⟩, fun v H' hy => ?_⟩
        obtain ⟨F', gr, rv⟩ := yl v H' hy
        have q0 := gr.stp (wipe σ vs) ρi
        refine ⟨F', ρi, _, ρ2, si.grow gr, rv, e3, fun σ2 F2 H2 p2 s2 w2 => ?_⟩
        have ew : wipe σ2 vs = wipe σ vs := wipe_eq w2.2 hv (w2.1.trans (wipe_length σ vs))
        refine ⟨ew, F2, ρ2, b, ρ3, s2, e4, fun F3 H3 p3 s3 => ?_⟩
        have q3 := q0.trans (p2.trans p3)
        have fin : ∀ (F4 : Hp) (ρ4 : Env) (H4 : Hp), Stp Fi (wipe σ vs) ρi Hi F4 σ2 ρ4 H4 → St (cxK X) F4 H4 σ2 ρ4 → H4 D = some (.lst acc) ∧ F4 D = none ∧ ¬ Owns (wipe σ vs) (wipeE ρ4 vs) D ∧ Stp F1 σ ρ1 H1 F4 (wipe σ vs) (wipeE ρ4 vs) H4 ∧ St (cxK X) F4 H4 (wipe σ vs) (wipeE ρ4 vs) := fun F4 ρ4 H4 q s4 => by
          obtain ⟨h1, h2⟩ := q.keep D _ hDi nD
          have h3 := stp_wipe (pi.trans q) hnv
          have h4 := st_wipe s4 vs
          rw [ew] at h3 h4
          refine ⟨h1, h2.trans fD, fun z => ?_, h3, h4⟩
          obtain ⟨j, f, dd, z1, z2⟩ := z
          obtain ⟨z3, z4⟩ := wipeE_cell z1
          rw [← ew, wipe_out' z4] at z2
          rcases q.fresh D ⟨j, f, dd, z3, z2⟩ with y | y
          · exact nD y
          · rw [hDi] at y
            cases y
        cases b with
        | true =>
          rw [if_pos rfl] at ei2
          obtain ⟨⟨y, ρ4⟩, e5, ei3⟩ := bind_some ei2
          obtain ⟨⟨r, ρ5⟩, e6, ei4⟩ := bind_some ei3
          cases ei4
          refine ⟨F3, ρ3, y, ρ4, s3, e5, fun u F4 H4 p4 s4 r4 => ?_⟩
          have q4 := q3.trans p4
          obtain ⟨h1, h2, h3, h4, h5⟩ := fin F4 ρ4 H4 q4 s4
          refine ⟨acc, h1, by rw [line_eq, da_len ra]; omega, F4, wipeE ρ4 vs, acc ++ [u], as ++ [y], r, stp_side h4 hD, st_side h5 h2 h3, e6, by rw [List.append_assoc]; exact er, ⟨h2, h3⟩, upd_same, da_app (dpAll_mono q4.ff _ _ ra) (.cons r4 .nil), by rw [List.length_append]; simpa using la⟩
        | false =>
          rw [if_neg Bool.false_ne_true] at ei2
          obtain ⟨h1, h2, h3, h4, h5⟩ := fin F3 ρ3 H3 q3 s3
          exact ⟨F3, wipeE ρ3 vs, acc, as, rr, h4, h5, ei2, er, ⟨h2, h3⟩, h1, dpAll_mono q3.ff _ _ ra, by omega⟩
      · rw [List.drop_of_length_le (by omega)] at ei
        cases ei
        obtain ⟨_, st⟩ := ok Fi Hi sff si.sub i
        refine .inl ⟨st (by omega), ?_⟩
        rw [List.append_nil] at er
        subst er
        obtain ⟨pb, sb⟩ := stp_back pi (by rw [si.len, wipe_length, s1.len]) hl.2
        exact k D Fi Hi (p1.trans pb) (st_back s1 si sff hl.2) ⟨⟨fD, .inl ⟨acc, as, rfl, hDi, ra⟩⟩, rfl⟩ (fun z => nD (sb D z)) (p1.none hD)
    · cases eg1
end
end Dn
set_option maxHeartbeats 2000000
namespace Dn
open PySem PySem.Spec PyProof.Rows L2
def vals (ds : List D) : Env := ds.map fun d => some (.val d)
def envV (N : Nat) (ds : List D) : Env := vals ds ++ List.replicate (N - ds.length) none
def endV : Fl × Env → Option D
  | (.ret d, _) => some d
  | (.nx, _) => some .none
  | _ => none
def runV (N : Nat) (g : Sd) (ds : List D) : Option D := (g (envV N ds)).bind endV
def ownOf : Option (Option Cell) → Option D
  | some (some (.own true d)) => some d
  | _ => none
def endIO (p : Fl × Env) : Option (D × D) := (ownOf p.2[0]?).bind fun d => (endV p).bind fun r => some (r, d)
theorem vals_get {ds : List D} {n i : Nat} {c : Cell} (h : (vals ds ++ List.replicate n none)[i]? = some (some c)) : ∃ d, ds[i]? = some d ∧ c = .val d := by
  by_cases hi : i < ds.length
  · rw [List.getElem?_append_left (by simpa [vals] using hi)] at h
    unfold vals at h
    rw [List.getElem?_map] at h
    cases q : ds[i]? with
    | none => rw [q] at h; cases h
    | some d =>
      rw [q] at h
      cases h
      exact ⟨d, rfl, rfl⟩
  · rw [List.getElem?_append_right (by simpa [vals] using Nat.le_of_not_lt hi)] at h
    have h2 := List.mem_of_getElem? h
    have := List.eq_of_mem_replicate h2
    cases this
theorem start_get {vs : List V} {n i : Nat} {v : V} (h : vs[i]? = some v) : (vs.map some ++ List.replicate n none)[i]? = some (some v) := by
  have hi := (List.getElem?_eq_some_iff.mp h).1
  rw [List.getElem?_append_left (by simpa using hi), List.getElem?_map, h]
  rfl
theorem st_vals {K : Kx} {F H : Hp} {N : List Str} {vs : List V} {ds : List D} (s : Same F H) (hd : RpAll K F vs ds) : St K F H (L2.start N vs) (envV N.length ds) where
  sub := s
  len := by simp [envV, L2.start, vals, da_len hd]
  cell := fun i c h => by
    obtain ⟨d, e, rfl⟩ := vals_get h
    obtain ⟨v, e1, r⟩ := da_at hd e
    exact ⟨v, start_get e1, r⟩
  dist := fun i j f g d e a h1 _ _ _ => by
    obtain ⟨d', _, z⟩ := vals_get h1
    cases z
theorem no_owns {σ : L2.St} {N : Nat} {ds : List D} {b : Addr} : ¬ Owns σ (envV N ds) b := fun z => by
  obtain ⟨i, f, d, h, _⟩ := z
  obtain ⟨d', _, z⟩ := vals_get h
  cases z
theorem stp_grow {K : Kx} {F F' H H' : Hp} {σ σ' : L2.St} {N : Nat} {ds : List D} {ρ' : Env} (p : Stp F σ (envV N ds) H F' σ' ρ' H') (s : St K F' H' σ' ρ') : Grow F H F' H' :=
  ⟨p.ff, fun b o h => (p.keep b o h no_owns).1, s.sub, fun b o h => (p.keep b o h no_owns).2⟩
section
variable {P : Program} {w : World} {K : PySem.W.Frag} {mg : Str → Option Value} {base : Heap}
theorem fn_V {x qual : Str} {st : Stmt} {f : Addr} {fd : FuncData} {N ps : List Str} {k : Nat} {g : Sd} (Fn : Fun K x qual st f fd) (S : FnScope N ps (defScope st))
    (hbody : ∀ (cdv : Value) (A : Around) (outer : List PySem.Env) (s : Shared) (H : Hp) (E : XK), Room k (A.deeper (envOfC qual (defScope st) s.heap.objs.size f cdv)) → DSs (cxOf CX0 P w K mg base N qual (defScope st) f cdv A outer s H E).nox (defBody st) g) :
    FnOk P w K mg base CX0 (k + 1) f fd ps (spV ⟨K, P, w⟩ ps.length (runV N.length g)) := by
  refine Fn.ok S (fun vs H Q E h => h.1) fun cdv A outer s H vs Q E hr h => ⟨_, hbody cdv A outer s H E hr, ?_⟩
  obtain ⟨_, F, ds, r, sf, hd, ef, k⟩ := h
  obtain ⟨⟨fl, ρ'⟩, e1, e2⟩ := bind_some ef
  refine ⟨F, envV N.length ds, fl, ρ', st_vals sf hd, e1, fun σ' F' H' p s' => ?_⟩
  have gr := stp_grow p s'
  cases fl with
  | nx =>
    cases e2
    exact k .non F' H' gr .non
  | ret d =>
    cases e2
    exact fun v rv => k v F' H' gr rv
  | rof d => cases e2
  | brk => cases e2
  | cnt => cases e2
def endF : Fl × Env → Option D
  | (.rof d, _) => some d
  | _ => none
end
def peek (ρ : Env) (i : Nat) : Option D := match ρ[i]? with
  | some (some (.val d)) => some d
  | some (some (.own _ d)) => if notT d = true then some d else none
  | _ => none
def flatD : D → Bool
  | .none => true
  | .bool _ => true
  | .int _ => true
  | .str _ => true
  | _ => false
def gPk (i : Nat) (f : List D → Option D) : Md D := fun ρ => (peek ρ i).bind fun d => (f [d]).bind fun r => if flatD r = true then some (r, ρ) else none
theorem flat_dp {K : Kx} {F F' : Hp} {v : V} {d : D} (h : Rp K F v d) (fl : flatD d = true) : Rp K F' v d := by
  cases h with
  | dic _ _ _ => cases fl
  | dicE _ => cases fl
  | dicN _ _ => cases fl
  | non => exact .non
  | bl b => exact .bl b
  | int i => exact .int i
  | str x => exact .str x
  | lst _ _ => cases fl
  | tup _ _ => cases fl
theorem peek_dp {K : Kx} {F H : Hp} {σ : L2.St} {ρ : Env} {i : Nat} {d : D} (s : St K F H σ ρ) (h : peek ρ i = some d) : ∃ v, σ[i]? = some (some v) ∧ Rp K H v d := by
  unfold peek at h
  split at h
  · rename_i d' e
    cases h
    obtain ⟨v, e1, r⟩ := st_val s e
    exact ⟨v, e1, dp_mono s.sub _ _ r⟩
  · rename_i f d' e
    by_cases hnt : notT d' = true
    case neg =>
      rw [if_neg hnt] at h
      cases h
    rw [if_pos hnt] at h
    cases h
    obtain ⟨a, e1, o, _⟩ := st_owned s e
    obtain ⟨f0, o⟩ := o
    rcases o with ⟨xs, ds, rfl, hx, r⟩ | ⟨xs, es, rfl, hx, r⟩ | ⟨xs, es, rfl, hx, r⟩
    · exact ⟨.ref a, e1, .lst (SqL.of hx) (dpAll_mono s.sub _ _ r)⟩
    · exact ⟨.ref a, e1, .dicN hx (dpN_mono s.sub _ _ r)⟩
    · cases hnt
  · cases h
section
variable {X : Cx} {e a : Expr} {pos p py : Pos} {x y : Str}
theorem de_pkB (i : Nat) {id : String} {f : List D → Option D} (hc : CallR X (.builtin id) (rPn (cxK X) f)) (hg : Gl X x) (hm : X.mg x = none) (hv : bootBuiltins x = some (.builtin id)) (hN : X.N[i]? = some y) (hy : Vis X.env.scope y) (hn : x ≠ "__name__" := by decide) (hdb : (x == ("__debug__" : Str)) = false := by decide)
    (hdy : (y == ("__debug__" : Str)) = false := by decide) (hcd : (y == ("__classdict__" : Str)) = false := by decide) (he : starEach [.Name y py] X.env = (false, eval (.Name y py) X.env) :: starEach [] X.env := by rfl) (hpl : (backTo pos (starEach [] X.env)).any (·.1) = false := by rfl) : DE X (.Call (.Name x p) [.Name y py] [] pos) (gPk i f) :=
  pe_imp (pe_callB hc hg hm hv (pa_cons (pe_var hN hy hdy hcd) pa_nil he) hn hdb he hpl) fun σ H Q q => by
    obtain ⟨F, ρ, d, ρ', s, eg, k⟩ := q
    obtain ⟨d1, e1, eg1⟩ := bind_some eg
    obtain ⟨r, e2, eg2⟩ := bind_some eg1
    split at eg2
    · rename_i fl
      cases eg2
      obtain ⟨v, ev, rv⟩ := peek_dp s e1
      refine ⟨v, ev, H, [d1], _, Same.refl H, .cons rv .nil, e2, fun u F' H' gr ru => ?_⟩
      have gr2 : Grow F H F H' := ⟨Same.refl F, gr.hh, s.sub.trans gr.hh, fun _ _ _ => rfl⟩
      exact k u F H' (gr2.stp σ ρ) (s.grow gr2) (flat_dp ru fl)
    · cases eg2
def ixO (d x : D) : Option D := if notT d = true then ixD d x else none
def gIxB (i : Nat) (gi : Md D) : Md D := fun ρ => match ρ[i]? with
  | some (some (.val d)) => (gi ρ).bind fun p => (ixD d p.1).bind fun r => some (r, p.2)
  | some (some (.own _ _)) => (gi ρ).bind fun p => match p.2[i]? with
    | some (some (.own _ d)) => (ixO d p.1).bind fun r => some (r, p.2)
    | _ => none
  | _ => none
theorem de_ixB (i : Nat) {gi : Md D} (hN : X.N[i]? = some y) (hy : Vis X.env.scope y) (hi : DE X a gi) (hs : PlainIx a) (hdy : (y == ("__debug__" : Str)) = false := by decide) (hcd : (y == ("__classdict__" : Str)) = false := by decide) : DE X (.Subscript (.Name y py) a pos) (gIxB i gi) :=
  pe_imp (pe_ix (ix_list.or ix_D) (pe_var hN hy hdy hcd) hi hs) fun σ H Q q => by
    obtain ⟨F, ρ, d, ρ', s, eg, k⟩ := q
    unfold gIxB at eg
    split at eg
    · rename_i d0 h0
      obtain ⟨⟨di, ρ1⟩, e1, eg1⟩ := bind_some eg
      obtain ⟨r, e2, eg2⟩ := bind_some eg1
      cases eg2
      obtain ⟨v, ev, rv⟩ := st_val s h0
      exact ⟨v, ev, F, ρ, di, _, s, e1, fun u F1 H1 p1 s1 r1 => .inr ⟨F1, d0, di, _, s1.sub, dp_mono p1.ff _ _ rv, r1, e2, fun z F2 H2 gr rz => k z F2 H2 (p1.trans (gr.stp σ _)) (s1.grow gr) rz⟩⟩
    · rename_i b0 d0 h0
      obtain ⟨a0, ea, o0, _⟩ := st_owned s h0
      obtain ⟨⟨di, ρ1⟩, e1, eg1⟩ := bind_some eg
      simp only at eg1
      split at eg1
      · rename_i b1 d1 h1
        obtain ⟨r, e2, eg2⟩ := bind_some eg1
        cases eg2
        refine ⟨.ref a0, ea, F, ρ, di, _, s, e1, fun u F1 H1 p1 s1 r1 => .inl ?_⟩
        obtain ⟨a1, ea1, o1, _⟩ := st_owned s1 h1
        rw [ea] at ea1
        cases ea1
        obtain ⟨f1, o1⟩ := o1
        rcases o1 with ⟨xs, ds, rfl, hx, rx⟩ | ⟨xs, es, rfl, _⟩ | ⟨xs, es, rfl, _⟩
        case inr.inl => cases di <;> cases e2
        case inr.inr => cases e2
        have e2 : ixD (.list ds) di = some d := e2
        cases di with
        | int z =>
          obtain ⟨w, ew, rw'⟩ := da_ix rx e2
          cases r1
          exact ⟨a0, xs, z, w, rfl, rfl, SqL.of hx, ixA_at ew, k w F1 H1 p1 s1 rw'⟩
        | none => cases e2
        | bool _ => cases e2
        | str _ => cases e2
        | list _ => cases e2
        | tuple _ => cases e2
        | dict _ => cases e2
      · cases eg1
    · cases eg
def inT (d : D) : D → Option Bool
  | .list ds => if SeqAt.shaped d = true ∧ SeqAt.shaped (.list ds) = true then some (ds.any fun z => PyData.eqv z d) else none
  | .tuple ds => if flatD d = true ∧ ds.all flatD = true then some (ds.any fun z => PyData.eqv z d) else none
  | _ => none
def inD (d e : D) : Option D := (inT d e).bind fun b => some (.bool b)
def ninD (d e : D) : Option D := (inT d e).bind fun b => some (.bool !b)
theorem flat_V {K : Kx} {H : Hp} {v : V} {d : D} (h : Rp K H v d) (fl : flatD d = true) : flatV v = true := by
  cases h with
  | non => rfl
  | bl b => rfl
  | int i => rfl
  | str x => rfl
  | lst _ _ => cases fl
  | tup _ _ => cases fl
  | dic _ _ _ => cases fl
  | dicE _ => cases fl
  | dicN _ _ => cases fl
theorem eq_V {K : Kx} {H : Hp} {v w : V} {d e : D} (h : Rp K H v d) (h2 : Rp K H w e) (f1 : flatD d = true) (f2 : flatD e = true) : eqV v w = PyData.eqv d e := by
  cases h <;> (try cases f1) <;> cases h2 <;> (try cases f2) <;> simp [eqV, PyData.eqv]
theorem in_V {K : Kx} {H : Hp} {v : V} {d : D} (h : Rp K H v d) (f1 : flatD d = true) : ∀ {ds : List D} {vs : List V}, RpAll K H vs ds → ds.all flatD = true → vs.all flatV = true ∧ inV v vs = ds.any fun z => PyData.eqv z d
  | _, _, .nil, _ => ⟨rfl, rfl⟩
  | _, _, .cons r rs, f2 => by
    rw [List.all_cons, Bool.and_eq_true] at f2
    obtain ⟨h1, h2⟩ := in_V h f1 rs f2.2
    refine ⟨by rw [List.all_cons, flat_V r f2.1, h1]; rfl, ?_⟩
    unfold inV at h2 ⊢
    rw [List.any_cons, List.any_cons, h2, eq_V r h f2.1 f1]
theorem in_any (hu : X.A.units + 65 < cLine) {v w : V} {H : Hp} {Q : VK} {d e : D} {b : Bool} (hd : Rp (cxK X) H v d) (he : Rp (cxK X) H w e) (h : inT d e = some b) (q : Q (.bl b) H) : rInD (cxK X) v w H Q ∨ rIn (cxK X) false v w H Q := by
  unfold inT at h
  split at h
  · split at h
    · rename_i hs
      cases h
      exact .inl ⟨d, _, rp_dp hd (SeqAt.canLay_of_shaped hs.1), rp_dp he (SeqAt.canLay_of_shaped hs.2), hs.1, hs.2, q⟩
    · cases h
  · split at h
    · rename_i hs
      cases h
      cases he with
      | @tup a vs _ h1 d1 =>
        obtain ⟨z1, z2⟩ := in_V hd hs.1 d1 hs.2
        exact .inr ⟨a, vs, rfl, .inr h1, flat_V hd hs.1, z1, by rw [z2]; exact q⟩
    · cases h
  · cases h
theorem nin_any (hu : X.A.units + 65 < cLine) {v w : V} {H : Hp} {Q : VK} {d e : D} {b : Bool} (hd : Rp (cxK X) H v d) (he : Rp (cxK X) H w e) (h : inT d e = some b) (q : Q (.bl !b) H) : rNotInD (cxK X) v w H Q ∨ rIn (cxK X) true v w H Q := by
  unfold inT at h
  split at h
  · split at h
    · rename_i hs
      cases h
      exact .inl ⟨d, _, rp_dp hd (SeqAt.canLay_of_shaped hs.1), rp_dp he (SeqAt.canLay_of_shaped hs.2), hs.1, hs.2, q⟩
    · cases h
  · split at h
    · rename_i hs
      cases h
      cases he with
      | @tup a vs _ h1 d1 =>
        obtain ⟨z1, z2⟩ := in_V hd hs.1 d1 hs.2
        exact .inr ⟨a, vs, rfl, .inr h1, flat_V hd hs.1, z1, by rw [z2]; exact q⟩
    · cases h
  · cases h
theorem op_inD' (hu : X.A.units + 65 < cLine) : OpR X (compareOp .In) (rP2 (cxK X) inD) := by
  intro pins s σ H v w t u Q I rx ry h
  obtain ⟨F, d, e, r, sf, hd, he, ef, k⟩ := h
  obtain ⟨b, e1, e2⟩ := bind_some ef
  cases e2
  exact ((op_inD hu).or op_in_seq) pins s σ H v w t u Q I rx ry (in_any hu (dp_mono sf _ _ hd) (dp_mono sf _ _ he) e1 (k _ F H (Grow.refl sf) (.bl _)))
def gInB (neg : Bool) (i : Nat) (g : Md D) : Md D := fun ρ => (g ρ).bind fun p => (peek p.2 i).bind fun e => (inT p.1 e).bind fun b => some (.bool (if neg = true then !b else b), p.2)
def truT : D → Option Bool
  | .none => some false
  | .bool b => some b
  | .int i => some (i != 0)
  | .str x => if x.length ≤ 16777216 then some ((x.length : Int) != 0) else none
  | .list ds => some (!ds.isEmpty)
  | .tuple ds => some (!ds.isEmpty)
  | _ => none
theorem da_emp {K : Kx} {H : Hp} {vs : List V} {ds : List D} (h : RpAll K H vs ds) : vs.isEmpty = ds.isEmpty := by
  cases h <;> rfl
theorem tru_dp {K : Kx} {H : Hp} {v : V} {d : D} {b : Bool} (h : Rp K H v d) (e : truT d = some b) : TruV K v H b := by
  cases h with
  | non =>
    cases e
    exact rfl
  | bl b =>
    cases e
    exact rfl
  | int i =>
    cases e
    exact rfl
  | str x =>
    have e1 : (if x.length ≤ 16777216 then some ((x.length : Int) != 0) else none) = some b := e
    by_cases hl : x.length ≤ 16777216
    · rw [if_pos hl] at e1
      cases e1
      exact ⟨by rw [line_eq]; exact hl, rfl⟩
    · rw [if_neg hl] at e1
      cases e1
  | lst h1 d1 =>
    cases e
    exact .inl ⟨_, h1, by rw [da_emp d1]⟩
  | tup h1 d1 =>
    cases e
    exact .inr (.inl ⟨_, h1, by rw [da_emp d1]⟩)
  | dic _ _ _ => cases e
  | dicE _ => cases e
  | dicN _ _ => cases e
def gTru (g : Md D) : Md Bool := fun ρ => (g ρ).bind fun p => (truT p.1).bind fun b => some (b, p.2)
def gTruB (i : Nat) : Md Bool := fun ρ => (peek ρ i).bind fun d => (truT d).bind fun b => some (b, ρ)
theorem dt_tru {g : Md D} (ha : DE X a g) (he : ∀ whole, isTrue a X.env whole = (do let v ← whole; standAt a.pos; holding [v] (truthy v)) := by intro _; rfl) : DT X a (gTru g) :=
  pt_imp (pt_truth ha he) fun σ H Q q => by
    obtain ⟨F, ρ, d, ρ', s, eg, k⟩ := q
    obtain ⟨⟨d1, ρ1⟩, e1, eg1⟩ := bind_some eg
    obtain ⟨b, e2, eg2⟩ := bind_some eg1
    cases eg2
    exact ⟨F, ρ, d1, _, s, e1, fun v F1 H1 p1 s1 r1 => ⟨_, tru_dp (dp_mono s1.sub _ _ r1) e2, k F1 H1 p1 s1⟩⟩
theorem dts_nil : PTs X [] (tDT (cxK X) gTrue) := ⟨fun pins s σ H Q I q => pts_nil.run pins s σ H Q I (by
  obtain ⟨F, ρ, d, ρ', st, eg, k⟩ := q
  cases eg
  exact k F H Stp.refl st)⟩
theorem dts_one {c : Expr} {g : Md Bool} (h : DT X c g) : PTs X [c] (tDT (cxK X) g) := pts_one h
theorem df_lc {e : Expr} {vs is : List Nat} {gi : Md (List D)} {gt : D → Env → Option Env} {gc : Md Bool} {ge : Md D} (h : PE X e (tLc (tDI (cxK X) gi) (tDG (cxK X) is gt) (tDT (cxK X) gc) (tD (cxK X) ge) vs)) (hv : ∀ j ∈ is, j ∈ vs := by decide) : DF X e (gLc vs gi gt gc ge) := pe_imp h fun _ _ _ q => lc_q hv q
theorem ds_lcO {st : Stmt} {i : Nat} {vs is : List Nat} {gi : Md (List D)} {gt : D → Env → Option Env} {gc : Md Bool} {ge : Md D} (h : PS X st (fun E σ H => tLc (tDI (cxK X) gi) (tDG (cxK X) is gt) (tDT (cxK X) gc) (tD (cxK X) ge) vs σ H fun v H1 => E.nx (σ.set i (some v)) H1)) (hv : ∀ j ∈ is, j ∈ vs := by decide) : DS X st (sOwn i (gLc vs gi gt gc ge)) :=
  ps_imp h fun E σ H q => by
    obtain ⟨F, ρ, f, ρ', s, eg, k⟩ := q
    obtain ⟨⟨d, ρ1⟩, e1, eg1⟩ := bind_some eg
    obtain ⟨r, e2, eg2⟩ := bind_some eg1
    cases eg2
    refine lc_q hv ⟨F, ρ, d, ρ1, s, e1, fun a F1 H1 p1 s1 o no hn => k _ F1 H1 (stp_set p1 e2 fun _ _ b _ z => ?_) (st_set s1 e2 ⟨a, rfl, o.1⟩ fun f _ b z1 z => ?_)⟩
    · cases z
      exact hn
    · cases z
      cases z1
      exact ⟨rfl, no⟩
end
end Dn
set_option maxHeartbeats 2000000
namespace Dn
open PySem PySem.Spec PyProof.Rows L2
section
variable {X : Cx} {e a : Expr} {pos p py : Pos} {x y : Str}
theorem dv (i : Nat) {x : Str} (hN : X.N[i]? = some x := by rfl) (hv : Vis X.env.scope x := by first | exact Or.inl rfl | exact Or.inr (Or.inl rfl) | exact Or.inr (Or.inr rfl)) (hd : (x == ("__debug__" : Str)) = false := by decide) (hcd : (x == ("__classdict__" : Str)) = false := by decide) : DE X (.Name x pos) (gVar i) := de_var i hN hv hd hcd
theorem dz (i : Nat) {x : Str} (hN : X.N[i]? = some x := by rfl) (hv : Vis X.env.scope x := by first | exact Or.inl rfl | exact Or.inr (Or.inl rfl) | exact Or.inr (Or.inr rfl)) (hd : (x == ("__debug__" : Str)) = false := by decide) (hcd : (x == ("__classdict__" : Str)) = false := by decide) : DE X (.Name x pos) (gFrz i) := de_frz i hN hv hd hcd
theorem in65 {k : Nat} {A : Around} (hr : Room k A) : A.units + 65 < cLine := by
  have := hr.un
  omega
theorem db_ix (i : Nat) {gi : Md D} (hi : DE X a gi) (hN : X.N[i]? = some y := by rfl) (hy : Vis X.env.scope y := by first | exact Or.inl rfl | exact Or.inr (Or.inl rfl) | exact Or.inr (Or.inr rfl)) (hs : PlainIx a := by intro _ _; rfl) (hdy : (y == ("__debug__" : Str)) = false := by decide) (hcd : (y == ("__classdict__" : Str)) = false := by decide) : DE X (.Subscript (.Name y py) a pos) (gIxB i gi) := de_ixB i hN hy hi hs hdy hcd
theorem db_call (i : Nat) {id : String} {f : List D → Option D} (hc : CallR X (.builtin id) (rPn (cxK X) f)) (hg : Gl X x) (hm : X.mg x = none) (hv : bootBuiltins x = some (.builtin id)) (hN : X.N[i]? = some y := by rfl) (hy : Vis X.env.scope y := by first | exact Or.inl rfl | exact Or.inr (Or.inl rfl) | exact Or.inr (Or.inr rfl)) (hn : x ≠ "__name__" := by decide) (hdb : (x == ("__debug__" : Str)) = false := by decide)
    (hdy : (y == ("__debug__" : Str)) = false := by decide) (hcd : (y == ("__classdict__" : Str)) = false := by decide) (he : starEach [.Name y py] X.env = (false, eval (.Name y py) X.env) :: starEach [] X.env := by rfl) (hpl : (backTo pos (starEach [] X.env)).any (·.1) = false := by rfl) : DE X (.Call (.Name x p) [.Name y py] [] pos) (gPk i f) := de_pkB i hc hg hm hv hN hy hn hdb hdy hcd he hpl
end
theorem bb_len : bootBuiltins "len" = some (.builtin "len") := by decide +kernel
theorem bt_int : bootBuiltins "int" = some (.type "int") := by decide +kernel
theorem bt_bool : bootBuiltins "bool" = some (.type "bool") := by decide +kernel
theorem bt_str : bootBuiltins "str" = some (.type "str") := by decide +kernel
theorem bt_list : bootBuiltins "list" = some (.type "list") := by decide +kernel
theorem bt_tuple : bootBuiltins "tuple" = some (.type "tuple") := by decide +kernel
end Dn
set_option maxHeartbeats 2000000
namespace Dn
open PySem PySem.Spec PyProof.Rows L2
section
variable {X : Cx} {tg e a b : Expr} {pos p py : Pos} {x y : Str}
theorem de_glob {n : Int} (hg : Gl X x) (h : ∃ t, X.mg x = some (.int n t)) (hd : (x == ("__debug__" : Str)) = false := by decide) : DE X (.Name x pos) (gC (.int n)) := by
  obtain ⟨t, ht⟩ := h
  exact de_const (t := tC .non) (v := .int n) (pe_glob hg ht ⟨t, rfl⟩ hd) fun _ => .int n
def mulT : D → D → Option D
  | .str x, .int n => if 0 ≤ n ∧ n ≤ 1000 ∧ x.length ≤ 1000 then some (.str (Txt.mul x n)) else none
  | _, _ => none
def ItU (K : PySem.W.Frag) (a : Addr) : It :=
  ⟨fun i H => ∃ (xs : List V) (x : V), SqT K H a xs ∧ xs[i]? = some x, fun i H v H' => ∃ T x, v = .ref T ∧ H T = none ∧ H' = upd H T (.tup [.int (i : Nat), x]) ∧ ∀ xs, SqT K H a xs → xs[i]? = some x, fun i H => ∃ xs : List V, SqT K H a xs ∧ xs.length ≤ i⟩
theorem turn_enumT {P : Program} {w : World} {K : PySem.W.Frag} {elts : List Expr} {kk : Nat} {tpos : Pos} (a e it : Addr) (hai : a ≠ it) (hae : a ≠ e) :
    Turn P w K (.Tuple elts kk tpos) (ItU K a) [e, it] e (fun i h => (∃ old, IsEnum h e it ((i : Nat) : Int) old) ∧ h.IsTupleIter it a i ∧ e ≠ it) where
  mem := by simp
  obj := fun i h st b hb => by
    obtain ⟨⟨old, he⟩, ⟨o, ho, hc, hd⟩, _⟩ := st
    have e' : b = e ∨ b = it := by simpa using hb
    rcases e' with z | z
    · rw [z]; exact ⟨_, he, fun v q => nomatch q⟩
    · rw [z]; exact ⟨o, ho, fun v q => by rw [hd] at q; cases q⟩
  keep := fun i h h' st k => let ⟨⟨old, he⟩, hi, hne⟩ := st; ⟨⟨old, k e (by simp) _ he⟩, hi.at fun o q => k it (by simp) o q, hne⟩
  item := by
    intro X hP hw hK hc i pins s σ H E I hf st hg
    subst hP hw hK
    obtain ⟨⟨old, he⟩, hit, hne⟩ := st
    obtain ⟨xs, x, hq, hx⟩ := hg
    obtain ⟨its, rv, p, hz⟩ := I.tuple hq
    obtain ⟨u, hu, ru⟩ := rv.get hx
    have p' : s.heap.IsTuple a its.toArray := p
    have hel : e < s.heap.objs.size := Heap.lt_size he
    have hil : it < s.heap.objs.size := by obtain ⟨_, q, _⟩ := hit; exact Heap.lt_size q
    refine wpAny_pyNext_enum_itemD (fp := [it, a]) (Draws.tuple (A := X.A.in1) (I.ok.hd hc) it a hai its.toArray) he ⟨hit, p'⟩ (by have := (List.getElem?_eq_some_iff.mp hu).1; simpa using this) hne (by simp [hne, Ne.symm hae]) fun x' h' tk hP ho st' hT hsz hk => ?_
    have ex : x' = u := by
      have h1 : its.toArray[i]? = some u := by simpa using hu
      exact Option.some.inj (hP.symm.trans h1)
    subst ex
    obtain ⟨hit', _⟩ := st'
    refine ⟨_, rfl, wpAny_letOwnedTupleGo_enum (s := { s with heap := h', toks := tk + 1 }) ho fun h'' he' sb => ?_⟩
    have hT2 : h''.get? s.heap.objs.size = some { cls := .type "tuple", data := .seq #[.int i tk, x'] } := (sb.2 _ (Nat.ne_of_gt hel)).trans hT
    have new : ObjOk X.prog X.w (upd H s.heap.objs.size (.tup [.int (i : Nat), x])) h'' s.heap.objs.size (.tup [.int (i : Nat), x]) :=
      ⟨by show 2 ≤ sizeLine; decide, [.int i tk, x'], .cons ⟨_, rfl⟩ (.cons ru .nil), ⟨_, hT2, rfl, _, rfl⟩⟩
    have I1 : Inv X pins σ (upd H s.heap.objs.size (.tup [.int (i : Nat), x])) { s with heap := h'', toks := tk + 1 } :=
      I.turnedNew (ch := [e, it]) (fun b ob hb q => (sb.2 b (fun z => hb (by simp [z]))).trans (hk b ob (fun z => hb (by simp [z])) (fun z => hb (by simp [z])) q)) hf (Nat.le_refl _) new
    refine ⟨.ref s.heap.objs.size, _, I1, rfl, ⟨_, x, rfl, I.hok.fresh (Nat.le_refl _), rfl, fun ys hy => by rw [I.tuple_inj hy hq]; exact hx⟩, ⟨⟨x', ?_⟩, hit'.at fun o q => (sb.2 it (Ne.symm hne)).trans q, hne⟩, fun b hb => ?_⟩
    · have e1 : ((i + 1 : Nat) : Int) = (i : Int) + 1 := by omega
      rw [e1]; exact he'
    · have hb' : b < s.heap.objs.size := by
        have e' : b = e ∨ b = it := by simpa using hb
        rcases e' with z | z
        · rw [z]; exact hel
        · rw [z]; exact hil
      rw [upd_ne (Nat.ne_of_lt hb')]
      exact (hf b hb).1
  done := by
    intro X hP hw hK hc i pins s σ H E I hf st hg
    subst hP hw hK
    obtain ⟨⟨old, he⟩, hit, hne⟩ := st
    obtain ⟨xs, hq, hx⟩ := hg
    obtain ⟨its, rv, p, hz⟩ := I.tuple hq
    obtain ⟨f0, f1, f2, f3, f4, f5⟩ := hf it (by simp)
    have hl := rv.length
    have p' : s.heap.IsTuple a its.toArray := p
    have D : Draws X.prog X.w X.A.in1 it [it, a] i (fun _ _ => True) (fun j h => j = i ∧ h.IsTupleIter it a i ∧ h.IsTuple a its.toArray) :=
      { live := fun _ _ st => let ⟨o, ho, _⟩ := st.2.1; ⟨o, ho⟩
        frame := fun _ _ _ st hk => ⟨st.1, st.2.1.at fun o e => hk it (by simp) o e, st.2.2.at fun o e => hk a (by simp) o e⟩
        item := fun j s Q E hi st hQ => absurd st.1 (by omega)
        done := fun s Q E st hE => wpAny_nextOf_tuple_end (I.ok.hd hc) st.2.1 st.2.2 (by simp; omega) hE }
    exact wpAny_pyNext_enum_endD (n := i) D he ⟨rfl, hit, p'⟩ fun h' eb => ⟨rfl, I.turned (t' := s.toks) (fun b o hb q => eb b o hb q) f0 f1 f3 f4 f5⟩
  self := fun A i s Q E st h => let ⟨⟨_, he⟩, _⟩ := st; wpAny_pyIter_enum he h
section
variable {prog : Program} {w : World} {A : Around} {E : Value → Shared → Prop} {s : Shared}
theorem meets_enumerate_newT (l : Addr) (items : Array Value) :
    Meets (Builtin.«enumerate.__new__» ⟨[.type "enumerate", .ref l], []⟩) (fun _ R s => s.heap.IsTuple l items ∧
      R (.ok (.ret (.ref (s.heap.push { cls := .type "tuple_iterator", data := .fields #[.ref l, .int 0 0] }).objs.size)))
        { s with heap := (s.heap.push { cls := .type "tuple_iterator", data := .fields #[.ref l, .int 0 0] }).push { cls := .type "enumerate", data := .fields #[.none, .bool false, .ref s.heap.objs.size, rawInt 0, .none, .none] } }) :=
  .of_wp fun prog w A R s h => by
    obtain ⟨hp, g, d, tk, os⟩ := s; obtain ⟨hL, h⟩ := h
    have hsub := sub_enumerate
    obtain ⟨o, hl, hc, hd⟩ := id hL
    wp_walk using AutoSeq1.wpAny_loadPart' hl
    refine wpAny_stack_any fun st => wpAny_pure ?_
    split
    · rename_i c _ _ _ _ _
      cases (c == Value.type "enumerate")
      · wp_walk using AutoSeq1.wpAny_loadPart' hl, wpAny_pyIter_tuple hL
        exact ⟨_, rfl, h⟩
      · wp_walk using AutoSeq1.wpAny_loadPart' hl, wpAny_pyIter_tuple hL
        exact ⟨_, rfl, h⟩
    · wp_walk using AutoSeq1.wpAny_loadPart' hl, wpAny_pyIter_tuple hL
      exact ⟨_, rfl, h⟩
theorem call_enumerate_tuple {l : Addr} {items : Array Value} {Q : Value → Shared → Prop} (hL : s.heap.IsTuple l items)
    (h : ∀ h', IsEnum h' (s.heap.objs.size + 1) s.heap.objs.size 0 .none → h'.IsTupleIter s.heap.objs.size l 0 → h'.objs.size = s.heap.objs.size + 2 →
      (∀ b o, s.heap.get? b = some o → h'.get? b = some o) → Q (.ref (s.heap.objs.size + 1)) { s with heap := h' }) :
    wpAny (model prog w) A (call (.type "enumerate") [.ref l]) Q E s := by
  refine callType_new PySem.F.called_enumerate (by decide) (PySem.F.typeCall_enumerate_1 _) (PySem.F.newCall_enumerate_1 _) (fun obj => PySem.F.args_object_init_2 obj _) PySem.F.entry_enumerate_new
    (meets_enumerate_newT l items) ⟨hL, ?_⟩
  have hz : (s.heap.push { cls := .type "tuple_iterator", data := .fields #[.ref l, .int 0 0] }).objs.size = s.heap.objs.size + 1 := Heap.size_push ..
  show _ ∧ _
  rw [hz]
  have he : IsEnum ((s.heap.push { cls := .type "tuple_iterator", data := .fields #[.ref l, .int 0 0] }).push
      { cls := .type "enumerate", data := .fields #[.none, .bool false, .ref s.heap.objs.size, rawInt 0, .none, .none] }) (s.heap.objs.size + 1) s.heap.objs.size 0 .none := by
    have := Heap.get?_push_size (s.heap.push { cls := .type "tuple_iterator", data := .fields #[.ref l, .int 0 0] })
      (o := { cls := .type "enumerate", data := .fields #[.none, .bool false, .ref s.heap.objs.size, rawInt 0, .none, .none] }) rfl
    rw [hz] at this; exact this
  refine ⟨⟨_, he, rfl⟩, h _ he ⟨_, Heap.get?_push_of_some _ (Heap.get?_push_size _ rfl), rfl, rfl⟩ (by rw [Heap.size_push, hz]) fun b o x => Heap.get?_push_of_some _ (Heap.get?_push_of_some _ x)⟩
end
def iEnumA (K : PySem.W.Frag) (ta : TA) : TI := fun σ H R => ta σ H fun vs H1 => ∃ a xs, vs = [.ref a] ∧ ((SqL K H1 a xs ∧ R (Ite K a) H1) ∨ (SqT K H1 a xs ∧ R (ItU K a) H1))
theorem pi_enumA {ta : TA} {tpos : Pos} {elts : List Expr} {kk : Nat} (hg : Gl X "enumerate") (hm : X.mg "enumerate" = none) (ha : PA X [e] ta) (hs : starEach [e] X.env = [(false, eval e X.env)] := by rfl) :
    PI X (.Tuple elts kk tpos) (.Call (.Name "enumerate" p) [e] [] pos) (iEnumA X.K ta) := by
  refine ⟨fun pins s σ H R I h => ?_⟩
  refine Call_ (ld_blt I hg hm boot_enumerate (PyProof.Rows.callWith_type1 (thn (ha.run pos pins s σ H _ I h) fun us s1 ⟨vs, H1, I1, r1, q1⟩ => ?_) hs rfl))
  obtain ⟨a, xs, ex, q⟩ := q1
  subst ex
  cases r1 with
  | cons r rr =>
    cases rr
    cases r
    have fps : ∀ b ∈ [s1.heap.objs.size + 1, s1.heap.objs.size], FpOk X pins H1 b := fun b hb => by
      have e' : b = s1.heap.objs.size + 1 ∨ b = s1.heap.objs.size := by simpa using hb
      have hle : s1.heap.objs.size ≤ b := by
        rcases e' with z | z
        · rw [z]; exact Nat.le_add_right _ _
        · rw [z]; exact Nat.le_refl _
      exact I1.fpOk hle (I1.hok.fresh hle)
    rcases q with ⟨hq, q⟩ | ⟨hq, q⟩
    · obtain ⟨its, rv, p', hz⟩ := I1.list hq
      refine call_enumerate_list p'.isList fun h' he hit hsz hk => wpAny_pyIter_enum he ?_
      have I2 : Inv X pins σ H1 { s1 with heap := h' } := I1.kept (t' := s1.toks) hk
      exact ⟨s1.heap.objs.size + 1, [s1.heap.objs.size + 1, s1.heap.objs.size], _, _, H1, rfl, I2, turn_enum a (s1.heap.objs.size + 1) s1.heap.objs.size, ⟨⟨.none, he⟩, hit, Nat.succ_ne_self _⟩, fps, q⟩
    · obtain ⟨its, rv, p', hz⟩ := I1.tuple hq
      have p2 : s1.heap.IsTuple a its.toArray := p'
      have hal : a < s1.heap.objs.size := by obtain ⟨_, q, _⟩ := p2; exact Heap.lt_size q
      refine call_enumerate_tuple p2 fun h' he hit hsz hk => wpAny_pyIter_enum he ?_
      have I2 : Inv X pins σ H1 { s1 with heap := h' } := I1.kept (t' := s1.toks) hk
      exact ⟨s1.heap.objs.size + 1, [s1.heap.objs.size + 1, s1.heap.objs.size], _, _, H1, rfl, I2, turn_enumT a (s1.heap.objs.size + 1) s1.heap.objs.size (Nat.ne_of_lt hal) (Nat.ne_of_lt (Nat.lt_succ_of_lt hal)), ⟨⟨.none, he⟩, hit, Nat.succ_ne_self _⟩, fps, q⟩
def enumL : Nat → List D → List D
  | _, [] => []
  | i, d :: ds => .tuple [.int i, d] :: enumL (i + 1) ds
theorem enumL_len : ∀ (i : Nat) (ds : List D), (enumL i ds).length = ds.length
  | _, [] => rfl
  | i, d :: ds => congrArg (· + 1) (enumL_len (i + 1) ds)
theorem enumL_get : ∀ (i j : Nat) (ds : List D), (enumL i ds)[j]? = ds[j]?.map fun d => .tuple [.int (i + j : Nat), d]
  | _, _, [] => rfl
  | i, 0, d :: ds => rfl
  | i, j + 1, d :: ds => by
    have e := enumL_get (i + 1) j ds
    have e2 : i + 1 + j = i + (j + 1) := by omega
    rw [e2] at e
    exact e
def enumOf (ds : List D) : Option (List D) := match ds with
  | [.list xs] => some (enumL 0 xs)
  | [.tuple xs] => some (enumL 0 xs)
  | _ => none
def gEnum (gs : Md (List D)) : Md (List D) := fun ρ => (gs ρ).bind fun p => (enumOf p.1).bind fun ds => some (ds, p.2)
theorem it_enum {K : Kx} {F : Hp} {a : Addr} {vs : List V} {ds : List D} (h : SqL K F a vs) (r : RpAll K F vs ds) : ItOk K F (Ite K a) (enumL 0 ds) := fun F1 H s1 s2 i => by
  have hH := (s1.trans s2).seq h
  refine ⟨fun d e => ?_, fun hl => ⟨vs, hH, by rw [da_len r, ← enumL_len 0]; exact hl⟩⟩
  rw [enumL_get] at e
  obtain ⟨d0, e0, ed⟩ := Option.map_eq_some_iff.mp e
  subst ed
  obtain ⟨v, e1, rv⟩ := da_at r e0
  refine ⟨⟨vs, v, hH, e1⟩, fun y H' hy => ?_⟩
  obtain ⟨T, x, rfl, hT, rfl, hy⟩ := hy
  have e2 := (hy vs hH).symm.trans e1
  cases e2
  have gr : Grow F1 H (upd F1 T (.tup [.int (i : Nat), v])) (upd H T (.tup [.int (i : Nat), v])) := Grow.val s2 hT
  refine ⟨_, gr, .tup (.inl (.inl upd_same)) (.cons ?_ (.cons (dp_mono (s1.trans gr.ff) _ _ rv) .nil))⟩
  rw [Nat.zero_add]
  exact .int _
theorem it_enumT {K : Kx} {F : Hp} {a : Addr} {vs : List V} {ds : List D} (h : SqT K F a vs) (r : RpAll K F vs ds) : ItOk K F (ItU K a) (enumL 0 ds) := fun F1 H s1 s2 i => by
  have hH := seqT_same (s1.trans s2) h
  refine ⟨fun d e => ?_, fun hl => ⟨vs, hH, by rw [da_len r, ← enumL_len 0]; exact hl⟩⟩
  rw [enumL_get] at e
  obtain ⟨d0, e0, ed⟩ := Option.map_eq_some_iff.mp e
  subst ed
  obtain ⟨v, e1, rv⟩ := da_at r e0
  refine ⟨⟨vs, v, hH, e1⟩, fun y H' hy => ?_⟩
  obtain ⟨T, x, rfl, hT, rfl, hy⟩ := hy
  have e2 := (hy vs hH).symm.trans e1
  cases e2
  have gr : Grow F1 H (upd F1 T (.tup [.int (i : Nat), v])) (upd H T (.tup [.int (i : Nat), v])) := Grow.val s2 hT
  refine ⟨_, gr, .tup (.inl (.inl upd_same)) (.cons ?_ (.cons (dp_mono (s1.trans gr.ff) _ _ rv) .nil))⟩
  rw [Nat.zero_add]
  exact .int _
theorem di_enum {gs : Md (List D)} {tpos : Pos} {elts : List Expr} {kk : Nat} (hg : Gl X "enumerate") (hm : X.mg "enumerate" = none) (ha : DA X [e] gs) (hs : starEach [e] X.env = [(false, eval e X.env)] := by rfl) :
    DI X (.Tuple elts kk tpos) (.Call (.Name "enumerate" p) [e] [] pos) (gEnum gs) :=
  pi_imp (pi_enumA hg hm ha hs) fun σ H R q => by
    obtain ⟨F, ρ, ds, ρ', s, eg, k⟩ := q
    obtain ⟨⟨d, ρ1⟩, e1, eg1⟩ := bind_some eg
    obtain ⟨z, e2, eg2⟩ := bind_some eg1
    cases eg2
    refine ⟨F, ρ, d, _, s, e1, fun vs F1 H1 p1 s1 r1 => ?_⟩
    simp only at e2
    unfold enumOf at e2
    split at e2
    · cases e2
      obtain ⟨v, rfl, rv⟩ := da1 r1
      cases rv with
      | @lst a vs _ h1 d1 => exact ⟨a, vs, rfl, .inl ⟨s1.sub.seq h1, k _ F1 H1 p1 s1 (it_enum h1 d1)⟩⟩
    · cases e2
      obtain ⟨v, rfl, rv⟩ := da1 r1
      cases rv with
      | @tup a vs _ h1 d1 => exact ⟨a, vs, rfl, .inr ⟨seqT_same s1.sub h1, k _ F1 H1 p1 s1 (it_enumT h1 d1)⟩⟩
    · cases e2
def keyOf : D → Option Key
  | .int i => some (.inl i)
  | .str x => some (.inr x)
  | _ => none
def gKV : List (Md D × Md D) → Md (List (D × D))
  | [] => fun ρ => some ([], ρ)
  | (gk, gv) :: r => fun ρ => (gk ρ).bind fun p => (gv p.2).bind fun q => (gKV r q.2).bind fun z => some ((p.1, q.1) :: z.1, z.2)
def keysOk (es : List (D × D)) : Bool := es.all (fun p => (keyOf p.1).isSome) && decide ((es.map fun p => keyOf p.1).Nodup) && decide (es.length ≤ 15)
def gDic (gs : List (Md D × Md D)) : Md D := fun ρ => (gKV gs ρ).bind fun p => if keysOk p.1 = true then some (.dict p.1, p.2) else none
end
end Dn
set_option maxHeartbeats 2000000
namespace DnSo
open PySem PySem.SeqAt PyProof.Rows PySem.W SrtO DnLt
def rk3 : PyData → Nat
  | .none => 0
  | .bool _ => 1
  | .int _ => 2
  | .str _ => 3
  | .tuple _ => 4
  | .list _ => 5
  | .dict _ => 6
mutual
def cmp3 : PyData → PyData → Ordering
  | .int i, .int j => if i < j then .lt else if j < i then .gt else .eq
  | .str a, .str b => if a.cps.toList < b.cps.toList then .lt else if b.cps.toList < a.cps.toList then .gt else .eq
  | .tuple xs, .tuple ys => cmpL xs ys
  | d, e => if rk3 d < rk3 e then .lt else if rk3 e < rk3 d then .gt else .eq
def cmpL : List PyData → List PyData → Ordering
  | [], [] => .eq
  | [], _ :: _ => .lt
  | _ :: _, [] => .gt
  | x :: xs, y :: ys => (cmp3 x y).then (cmpL xs ys)
end
theorem cmp3_rk {d e : PyData} (h : rk3 d ≠ rk3 e) : cmp3 d e = if rk3 d < rk3 e then .lt else .gt := by
  have hl : ¬ rk3 d < rk3 e → rk3 e < rk3 d := by omega
  cases d <;> cases e <;> first | (exfalso; exact h rfl) | (simp [cmp3, rk3])
theorem lst_tri (a b : List Nat) : a < b ∨ a = b ∨ b < a := by
  by_cases h : a < b
  · exact .inl h
  · by_cases h2 : b < a
    · exact .inr (.inr h2)
    · exact .inr (.inl (List.le_antisymm (List.not_lt.mp h2) (List.not_lt.mp h)))
theorem rk_le {d e : PyData} (h : cmp3 d e ≠ .gt) : rk3 d ≤ rk3 e := by
  by_cases q : rk3 d = rk3 e
  · omega
  · rw [cmp3_rk q] at h
    by_cases a : rk3 d < rk3 e
    · omega
    · simp [a] at h
theorem rk_lt {d e : PyData} (h : rk3 d < rk3 e) : cmp3 d e = .lt := by
  rw [cmp3_rk (by omega), if_pos h]
theorem swap_rk {d e : PyData} (h : rk3 d ≠ rk3 e) : cmp3 e d = (cmp3 d e).swap := by
  rw [cmp3_rk h, cmp3_rk (Ne.symm h)]
  by_cases a : rk3 d < rk3 e
  · rw [if_pos a, if_neg (by omega)]
    rfl
  · rw [if_neg a, if_pos (by omega)]
    rfl
theorem trans_rk {d e f : PyData} (h : ¬ (rk3 d = rk3 e ∧ rk3 e = rk3 f)) (h1 : cmp3 d e ≠ .gt) (h2 : cmp3 e f ≠ .gt) : cmp3 d f = (cmp3 d e).then (cmp3 e f) := by
  have a := rk_le h1
  have b := rk_le h2
  rw [rk_lt (show rk3 d < rk3 f by omega)]
  by_cases q : rk3 d < rk3 e
  · rw [rk_lt q]
    rfl
  · rw [rk_lt (show rk3 e < rk3 f by omega)]
    cases hc : cmp3 d e with
    | lt => rfl
    | eq => rfl
    | gt => exact absurd hc h1
theorem trans_int {i j k : Int} (h1 : cmp3 (.int i) (.int j) ≠ .gt) (h2 : cmp3 (.int j) (.int k) ≠ .gt) : cmp3 (.int i) (.int k) = (cmp3 (.int i) (.int j)).then (cmp3 (.int j) (.int k)) := by
  simp only [cmp3] at h1 h2 ⊢
  have e1 : ¬ j < i := fun z => by
    rw [if_neg (show ¬ i < j by omega), if_pos z] at h1
    exact h1 rfl
  have e2 : ¬ k < j := fun z => by
    rw [if_neg (show ¬ j < k by omega), if_pos z] at h2
    exact h2 rfl
  by_cases a : i < j
  · rw [if_pos a, if_pos (show i < k by omega)]
    rfl
  · have : i = j := by omega
    subst this
    rw [if_neg a, if_neg a]
    rfl
theorem trans_str {i j k : Str} (h1 : cmp3 (.str i) (.str j) ≠ .gt) (h2 : cmp3 (.str j) (.str k) ≠ .gt) : cmp3 (.str i) (.str k) = (cmp3 (.str i) (.str j)).then (cmp3 (.str j) (.str k)) := by
  simp only [cmp3] at h1 h2 ⊢
  generalize i.cps.toList = i at h1 ⊢
  generalize k.cps.toList = k at h2 ⊢
  generalize j.cps.toList = j at h1 h2 ⊢
  have e1 : ¬ j < i := fun z => by
    rw [if_neg (fun y => List.lt_asymm y z), if_pos z] at h1
    exact h1 rfl
  have e2 : ¬ k < j := fun z => by
    rw [if_neg (fun y => List.lt_asymm y z), if_pos z] at h2
    exact h2 rfl
  by_cases a : i < j
  · have b : i < k := by
      rcases lst_tri j k with h | h | h
      · exact List.lt_trans a h
      · exact h ▸ a
      · exact absurd h e2
    rw [if_pos a, if_pos b]
    rfl
  · have : i = j := List.le_antisymm (List.not_lt.mp e1) (List.not_lt.mp a)
    subst this
    rw [if_neg a, if_neg a]
    rfl
mutual
theorem trans3 : ∀ (d e f : PyData), cmp3 d e ≠ .gt → cmp3 e f ≠ .gt → cmp3 d f = (cmp3 d e).then (cmp3 e f)
  | .tuple xs, e, f, h1, h2 => by
    by_cases q : rk3 (.tuple xs) = rk3 e ∧ rk3 e = rk3 f
    · obtain ⟨q1, q2⟩ := q
      cases e <;> simp only [rk3, reduceCtorEq, Nat.reduceEqDiff] at q1
      cases f <;> simp only [rk3, reduceCtorEq, Nat.reduceEqDiff] at q2
      simp only [cmp3] at h1 h2 ⊢
      exact transL xs _ _ h1 h2
    · exact trans_rk q h1 h2
  | .int i, e, f, h1, h2 => by
    by_cases q : rk3 (.int i) = rk3 e ∧ rk3 e = rk3 f
    · obtain ⟨q1, q2⟩ := q
      cases e <;> simp only [rk3, reduceCtorEq, Nat.reduceEqDiff] at q1
      cases f <;> simp only [rk3, reduceCtorEq, Nat.reduceEqDiff] at q2
      exact trans_int h1 h2
    · exact trans_rk q h1 h2
  | .str i, e, f, h1, h2 => by
    by_cases q : rk3 (.str i) = rk3 e ∧ rk3 e = rk3 f
    · obtain ⟨q1, q2⟩ := q
      cases e <;> simp only [rk3, reduceCtorEq, Nat.reduceEqDiff] at q1
      cases f <;> simp only [rk3, reduceCtorEq, Nat.reduceEqDiff] at q2
      exact trans_str h1 h2
    · exact trans_rk q h1 h2
  | .none, e, f, h1, h2 => by
    by_cases q : rk3 .none = rk3 e ∧ rk3 e = rk3 f
    · obtain ⟨q1, q2⟩ := q
      cases e <;> simp only [rk3, reduceCtorEq, Nat.reduceEqDiff] at q1
      cases f <;> simp only [rk3, reduceCtorEq, Nat.reduceEqDiff] at q2
      simp [cmp3, rk3]
    · exact trans_rk q h1 h2
  | .bool i, e, f, h1, h2 => by
    by_cases q : rk3 (.bool i) = rk3 e ∧ rk3 e = rk3 f
    · obtain ⟨q1, q2⟩ := q
      cases e <;> simp only [rk3, reduceCtorEq, Nat.reduceEqDiff] at q1
      cases f <;> simp only [rk3, reduceCtorEq, Nat.reduceEqDiff] at q2
      simp [cmp3, rk3]
    · exact trans_rk q h1 h2
  | .list i, e, f, h1, h2 => by
    by_cases q : rk3 (.list i) = rk3 e ∧ rk3 e = rk3 f
    · obtain ⟨q1, q2⟩ := q
      cases e <;> simp only [rk3, reduceCtorEq, Nat.reduceEqDiff] at q1
      cases f <;> simp only [rk3, reduceCtorEq, Nat.reduceEqDiff] at q2
      simp [cmp3, rk3]
    · exact trans_rk q h1 h2
  | .dict i, e, f, h1, h2 => by
    by_cases q : rk3 (.dict i) = rk3 e ∧ rk3 e = rk3 f
    · obtain ⟨q1, q2⟩ := q
      cases e <;> simp only [rk3, reduceCtorEq, Nat.reduceEqDiff] at q1
      cases f <;> simp only [rk3, reduceCtorEq, Nat.reduceEqDiff] at q2
      simp [cmp3, rk3]
    · exact trans_rk q h1 h2
theorem transL : ∀ (xs ys zs : List PyData), cmpL xs ys ≠ .gt → cmpL ys zs ≠ .gt → cmpL xs zs = (cmpL xs ys).then (cmpL ys zs)
  | [], [], zs, _, _ => by cases zs <;> rfl
  | [], _ :: _, [], _, h2 => absurd rfl h2
  | [], _ :: _, _ :: _, _, _ => rfl
  | _ :: _, [], _, h1, _ => absurd rfl h1
  | _ :: _, _ :: _, [], _, h2 => absurd rfl h2
  | x :: xs, y :: ys, z :: zs, h1, h2 => by
    simp only [cmpL] at h1 h2 ⊢
    have g1 : cmp3 x y ≠ .gt := fun q => by rw [q] at h1; exact h1 rfl
    have g2 : cmp3 y z ≠ .gt := fun q => by rw [q] at h2; exact h2 rfl
    rw [trans3 x y z g1 g2]
    cases q1 : cmp3 x y with
    | gt => exact absurd q1 g1
    | lt => rfl
    | eq =>
      cases q2 : cmp3 y z with
      | gt => exact absurd q2 g2
      | lt =>
        rw [q1] at h1
        cases q3 : cmpL xs ys with
        | gt => rw [q3] at h1; exact absurd rfl h1
        | lt => rfl
        | eq => rfl
      | eq =>
        rw [q1] at h1
        rw [q2] at h2
        exact transL xs ys zs h1 h2
end
mutual
theorem swap3 : ∀ (d e : PyData), cmp3 e d = (cmp3 d e).swap
  | .tuple xs, e => by
    by_cases q : rk3 (.tuple xs) = rk3 e
    · cases e <;> simp only [rk3, reduceCtorEq, Nat.reduceEqDiff] at q
      simp only [cmp3]
      exact swapL xs _
    · exact swap_rk q
  | .int i, e => by
    by_cases q : rk3 (.int i) = rk3 e
    · cases e <;> simp only [rk3, reduceCtorEq, Nat.reduceEqDiff] at q
      rename_i j
      simp only [cmp3]
      by_cases a : i < j
      · rw [if_pos a, if_neg (by omega), if_pos a]
        rfl
      · by_cases b : j < i
        · rw [if_pos b, if_neg a, if_pos b]
          rfl
        · rw [if_neg b, if_neg a, if_neg a, if_neg b]
          rfl
    · exact swap_rk q
  | .str i, e => by
    by_cases q : rk3 (.str i) = rk3 e
    · cases e <;> simp only [rk3, reduceCtorEq, Nat.reduceEqDiff] at q
      rename_i j
      simp only [cmp3]
      by_cases a : i.cps.toList < j.cps.toList
      · rw [if_pos a, if_neg (fun z => List.lt_asymm a z), if_pos a]
        rfl
      · by_cases b : j.cps.toList < i.cps.toList
        · rw [if_pos b, if_neg a, if_pos b]
          rfl
        · rw [if_neg b, if_neg a, if_neg a, if_neg b]
          rfl
    · exact swap_rk q
  | .none, e => by
    by_cases q : rk3 .none = rk3 e
    · cases e <;> simp only [rk3, reduceCtorEq, Nat.reduceEqDiff] at q
      simp [cmp3, rk3]
    · exact swap_rk q
  | .bool i, e => by
    by_cases q : rk3 (.bool i) = rk3 e
    · cases e <;> simp only [rk3, reduceCtorEq, Nat.reduceEqDiff] at q
      simp [cmp3, rk3]
    · exact swap_rk q
  | .list i, e => by
    by_cases q : rk3 (.list i) = rk3 e
    · cases e <;> simp only [rk3, reduceCtorEq, Nat.reduceEqDiff] at q
      simp [cmp3, rk3]
    · exact swap_rk q
  | .dict i, e => by
    by_cases q : rk3 (.dict i) = rk3 e
    · cases e <;> simp only [rk3, reduceCtorEq, Nat.reduceEqDiff] at q
      simp [cmp3, rk3]
    · exact swap_rk q
theorem swapL : ∀ (xs ys : List PyData), cmpL ys xs = (cmpL xs ys).swap
  | [], [] => rfl
  | [], _ :: _ => rfl
  | _ :: _, [] => rfl
  | x :: xs, y :: ys => by
    simp only [cmpL]
    rw [swap3 x y, swapL xs ys]
    cases cmp3 x y <;> rfl
end
theorem swo3 : Swo (fun d e : PyData => cmp3 d e == .lt) := by
  refine ⟨fun x y h => ?_, fun x y z h1 h2 => ?_⟩
  · have e : cmp3 x y = .lt := by simpa using h
    rw [swap3 x y, e]
    rfl
  · have a1 : cmp3 x y ≠ .gt := fun q => by
      rw [swap3 x y, q] at h1
      exact absurd h1 (by decide)
    have a2 : cmp3 y z ≠ .gt := fun q => by
      rw [swap3 y z, q] at h2
      exact absurd h2 (by decide)
    have a3 := trans3 x y z a1 a2
    rw [swap3 x z, a3]
    cases q1 : cmp3 x y with
    | gt => exact absurd q1 a1
    | lt => rfl
    | eq =>
      cases q2 : cmp3 y z with
      | gt => exact absurd q2 a2
      | lt => rfl
      | eq => rfl
mutual
def ord0 : PyData → Bool
  | .int _ => true
  | .str _ => true
  | .tuple xs => ordL xs
  | _ => false
def ordL : List PyData → Bool
  | [] => true
  | x :: xs => ord0 x && ordL xs
end
mutual
theorem eq_of_cmp : ∀ (d e : PyData), ord0 d = true → ord0 e = true → cmp3 d e = .eq → d = e
  | .tuple xs, e, h1, h2, h => by
    cases e <;> simp only [ord0, Bool.false_eq_true] at h2
    · simp [cmp3, rk3] at h
    · simp [cmp3, rk3] at h
    · simp only [cmp3] at h
      rw [eqL_of_cmp xs _ (by simpa [ord0] using h1) h2 h]
  | .int i, e, h1, h2, h => by
    cases e <;> simp only [ord0, Bool.false_eq_true] at h2
    · simp only [cmp3] at h
      rename_i j
      by_cases a : i < j
      · simp [a] at h
      · by_cases b : j < i
        · simp [a, b] at h
        · rw [show i = j by omega]
    · simp [cmp3, rk3] at h
    · simp [cmp3, rk3] at h
  | .str i, e, h1, h2, h => by
    cases e <;> simp only [ord0, Bool.false_eq_true] at h2
    · simp [cmp3, rk3] at h
    · simp only [cmp3] at h
      rename_i j
      by_cases a : i.cps.toList < j.cps.toList
      · simp [a] at h
      · by_cases b : j.cps.toList < i.cps.toList
        · simp [a, b] at h
        · rw [PySem.W.str_of_cps (List.le_antisymm (List.not_lt.mp b) (List.not_lt.mp a))]
    · simp [cmp3, rk3] at h
  | .none, _, h, _, _ => by cases h
  | .bool _, _, h, _, _ => by cases h
  | .list _, _, h, _, _ => by cases h
  | .dict _, _, h, _, _ => by cases h
theorem eqL_of_cmp : ∀ (xs ys : List PyData), ordL xs = true → ordL ys = true → cmpL xs ys = .eq → xs = ys
  | [], [], _, _, _ => rfl
  | [], _ :: _, _, _, h => by cases h
  | _ :: _, [], _, _, h => by cases h
  | x :: xs, y :: ys, h1, h2, h => by
    simp only [ordL, Bool.and_eq_true] at h1 h2
    simp only [cmpL] at h
    cases q : cmp3 x y with
    | lt => rw [q] at h; cases h
    | gt => rw [q] at h; cases h
    | eq =>
      rw [q] at h
      rw [eq_of_cmp x y h1.1 h2.1 q, eqL_of_cmp xs ys h1.2 h2.2 h]
end
theorem cmp_self (d : PyData) : cmp3 d d = .eq := by
  have h := swap3 d d
  cases q : cmp3 d d with
  | eq => rfl
  | lt => rw [q] at h; cases h
  | gt => rw [q] at h; cases h
mutual
theorem eq_of_eqv : ∀ (d e : PyData), ord0 d = true → ord0 e = true → PyData.eqv d e = true → d = e
  | .tuple xs, e, h1, h2, h => by
    cases e <;> simp only [ord0, Bool.false_eq_true] at h2
    · simp [PyData.eqv] at h
    · simp [PyData.eqv] at h
    · simp only [PyData.eqv] at h
      rw [eqL_of_eqv xs _ (by simpa [ord0] using h1) h2 h]
  | .int i, e, h1, h2, h => by
    cases e <;> simp only [ord0, Bool.false_eq_true] at h2
    · simp [PyData.eqv] at h
      rw [h]
    · simp [PyData.eqv] at h
    · simp [PyData.eqv] at h
  | .str i, e, h1, h2, h => by
    cases e <;> simp only [ord0, Bool.false_eq_true] at h2
    · simp [PyData.eqv] at h
    · simp [PyData.eqv] at h
      rw [h]
    · simp [PyData.eqv] at h
  | .none, _, h, _, _ => by cases h
  | .bool _, _, h, _, _ => by cases h
  | .list _, _, h, _, _ => by cases h
  | .dict _, _, h, _, _ => by cases h
theorem eqL_of_eqv : ∀ (xs ys : List PyData), ordL xs = true → ordL ys = true → PyData.eqvAll xs ys = true → xs = ys
  | [], [], _, _, _ => rfl
  | [], _ :: _, _, _, h => by simp [PyData.eqvAll] at h
  | _ :: _, [], _, _, h => by simp [PyData.eqvAll] at h
  | x :: xs, y :: ys, h1, h2, h => by
    simp only [ordL, Bool.and_eq_true] at h1 h2
    simp only [PyData.eqvAll, Bool.and_eq_true] at h
    rw [eq_of_eqv x y h1.1 h2.1 h.1, eqL_of_eqv xs ys h1.2 h2.2 h.2]
end
mutual
theorem eqv_self : ∀ (d : PyData), ord0 d = true → PyData.eqv d d = true
  | .tuple xs, h => by
    simp only [PyData.eqv]
    exact eqvL_self xs h
  | .int i, _ => by simp [PyData.eqv]
  | .str i, _ => by simp [PyData.eqv]
  | .none, h => by cases h
  | .bool _, h => by cases h
  | .list _, h => by cases h
  | .dict _, h => by cases h
theorem eqvL_self : ∀ (xs : List PyData), ordL xs = true → PyData.eqvAll xs xs = true
  | [], _ => rfl
  | x :: xs, h => by
    simp only [ordL, Bool.and_eq_true] at h
    simp only [PyData.eqvAll, eqv_self x h.1, eqvL_self xs h.2, Bool.and_self]
end
mutual
theorem cmp_of_ltB : ∀ (d e : PyData) (b : Bool), ord0 d = true → ord0 e = true → ltB d e = some b → b = (cmp3 d e == .lt)
  | .tuple xs, e, b, h1, h2, h => by
    cases e <;> simp only [ord0, Bool.false_eq_true] at h2
    · simp [ltB] at h
    · simp [ltB] at h
    · simp only [ltB] at h
      simp only [cmp3]
      exact cmp_of_ltA xs _ b h1 h2 h
  | .int i, e, b, h1, h2, h => by
    cases e <;> simp only [ord0, Bool.false_eq_true] at h2
    · simp only [ltB, Option.some.injEq] at h
      rename_i j
      rw [← h]
      simp only [cmp3]
      by_cases a : i < j
      · simp [a]
      · by_cases c : j < i <;> simp [a, c]
    · simp [ltB] at h
    · simp [ltB] at h
  | .str i, e, b, h1, h2, h => by
    cases e <;> simp only [ord0, Bool.false_eq_true] at h2
    · simp [ltB] at h
    · simp only [ltB, Option.some.injEq] at h
      rename_i j
      rw [← h]
      simp only [cmp3]
      by_cases a : i.cps.toList < j.cps.toList
      · simp [a]
      · by_cases c : j.cps.toList < i.cps.toList <;> simp [a, c]
    · simp [ltB] at h
  | .none, _, _, h, _, _ => by cases h
  | .bool _, _, _, h, _, _ => by cases h
  | .list _, _, _, h, _, _ => by cases h
  | .dict _, _, _, h, _, _ => by cases h
theorem cmp_of_ltA : ∀ (xs ys : List PyData) (b : Bool), ordL xs = true → ordL ys = true → ltA xs ys = some b → b = (cmpL xs ys == .lt)
  | [], [], b, _, _, h => by
    simp only [ltA, Option.some.injEq] at h
    rw [← h]
    rfl
  | [], _ :: _, b, _, _, h => by
    simp only [ltA, Option.some.injEq] at h
    rw [← h]
    rfl
  | _ :: _, [], b, _, _, h => by
    simp only [ltA, Option.some.injEq] at h
    rw [← h]
    rfl
  | x :: xs, y :: ys, b, h1, h2, h => by
    simp only [ordL, Bool.and_eq_true] at h1 h2
    simp only [cmpL]
    rw [ltA] at h
    by_cases q : PyData.eqv x y = true
    · rw [if_pos q] at h
      have e := eq_of_eqv x y h1.1 h2.1 q
      subst e
      rw [cmp_self]
      exact cmp_of_ltA xs ys b h1.2 h2.2 h
    · rw [if_neg q] at h
      have e := cmp_of_ltB x y b h1.1 h2.1 h
      cases c : cmp3 x y with
      | lt => rw [c] at e; exact e
      | gt => rw [c] at e; exact e
      | eq =>
        have := eq_of_cmp x y h1.1 h2.1 c
        subst this
        exact absurd (eqv_self x h1.1) q
end
/-- sorted by cmp3 -/
def leD3 (d e : PyData) : Bool := !(cmp3 e d == .lt)
end DnSo
set_option maxHeartbeats 2000000
namespace DnSo
open PySem PySem.SeqAt PyProof.Rows PySem.W SrtO DnLt
def isI : PyData → Bool
  | .int _ => true
  | _ => false
def isT : PyData → Bool
  | .tuple _ => true
  | _ => false
/-- a tuple whose first item is such -/
def fst1 (p : PyData → Bool) : PyData → Bool
  | .tuple (x :: _) => p x
  | _ => false
def sortOk (ds : List PyData) : Bool := decide (ds.length ≤ 16777216) && ds.all (fun d => ord0 d && d.canLay0 && decide (d.depth ≤ 8)) && ds.all (fun d => ds.all fun e => (ltB d e).isSome) && (ds.all (fst1 isI) || ds.all (fst1 isT) || ds.all isI)
end DnSo
namespace Dn
open PySem PySem.Spec PyProof.Rows L2 DnSo
inductive Tri (K : Kx) (F : Hp) : List V → List Value → List D → Prop
  | nil : Tri K F [] [] []
  | cons {x : V} {u : Value} {d : D} {xs : List V} {us : List Value} {ds : List D} (h1 : RelV x u) (h2 : Rp K F x d) (h3 : Tri K F xs us ds) : Tri K F (x :: xs) (u :: us) (d :: ds)
theorem Tri.all {K : Kx} {F : Hp} {xs : List V} {us : List Value} {ds : List D} (t : Tri K F xs us ds) : RpAll K F xs ds := by
  induction t with
  | nil => exact .nil
  | cons a b c ih => exact .cons b ih
theorem Tri.mem {K : Kx} {F : Hp} {xs : List V} {us : List Value} {ds : List D} (t : Tri K F xs us ds) : ∀ u ∈ us, ∃ x d, d ∈ ds ∧ RelV x u ∧ Rp K F x d := by
  induction t with
  | nil => simp
  | cons a b c ih =>
    intro u hu
    rcases List.mem_cons.mp hu with e | e
    · subst e
      exact ⟨_, _, List.mem_cons_self, a, b⟩
    · obtain ⟨x, d, h1, h2⟩ := ih u e
      exact ⟨x, d, List.mem_cons_of_mem _ h1, h2⟩
theorem Tri.map {K : Kx} {F : Hp} {k : Value → D} {xs : List V} {us : List Value} {ds : List D} (t : Tri K F xs us ds) : (∀ x u d, d ∈ ds → RelV x u → Rp K F x d → k u = d) → us.map k = ds := by
  induction t with
  | nil => exact fun _ => rfl
  | cons a b c ih =>
    intro h
    rw [List.map_cons, h _ _ _ List.mem_cons_self a b, ih fun x u d hd => h x u d (List.mem_cons_of_mem _ hd)]
def sortF : List D → Option D
  | [.list xs] => if sortOk xs = true then some (.list (xs.mergeSort leD3)) else none
  | _ => none
end Dn
set_option maxHeartbeats 2000000
namespace Dn
open PySem PySem.Spec PyProof.Rows L2
def reprOk (d : D) : Bool := d.canLay0 && decide (d.depth ≤ 8) && PyData.showable d && PyData.leavesShort 13 d && decide (d.weight ≤ 2 ^ 20)
def reprF : List D → Option D
  | [.list xs] => if reprOk (.list xs) = true then some (.str (PyData.list xs).shown) else none
  | [.tuple xs] => if reprOk (.tuple xs) = true then some (.str (PyData.tuple xs).shown) else none
  | _ => none
mutual
theorem noDict_of : ∀ d : D, d.canLay0 = true → d.hasDict = false
  | .none, _ => rfl
  | .bool _, _ => rfl
  | .int _, _ => rfl
  | .str _, _ => rfl
  | .list xs, h => by
    rw [PyData.hasDict]
    exact noDict_all xs (by simpa [PyData.canLay0] using h)
  | .tuple xs, h => by
    rw [PyData.hasDict]
    exact noDict_all xs (by simpa [PyData.canLay0] using h)
  | .dict _, h => by simp [PyData.canLay0] at h
theorem noDict_all : ∀ ds : List D, PyData.canLayAll0 ds = true → PyData.hasDictAll ds = false
  | [], _ => rfl
  | d :: ds, h => by
    have c : d.canLay0 = true ∧ PyData.canLayAll0 ds = true := by simpa [PyData.canLayAll0] using h
    rw [PyData.hasDictAll, noDict_of d c.1, noDict_all ds c.2]
    rfl
end
section
variable {X : Cx}
theorem repr_ref {pins : List (Addr × Obj)} {s : Shared} {σ : L2.St} {F H : Hp} {Q : VK} {d : D} {a : Addr} (hg : X.A.guards = some []) (hu : X.A.units + 65 < cLine) (I : Inv X pins σ H s) (sf : Same F H) (hp : Rp (cxK X) F (.ref a) d) (ok : reprOk d = true)
    (k : ∀ v F' H', Grow F H F' H' → Rp (cxK X) F' v (.str d.shown) → Q v H') : wpAny (model X.prog X.w) X.A (call (.builtin "repr") [.ref a]) (fun u s' => ∃ v H', Inv X pins σ H' s' ∧ RelV v u ∧ Q v H') X.xe s := by
  unfold reprOk at ok
  simp only [Bool.and_eq_true, decide_eq_true_eq] at ok
  obtain ⟨⟨⟨⟨c1, c2⟩, c3⟩, c4⟩, c5⟩ := ok
  obtain ⟨as, r⟩ := Dp.reads I d (.ref a) (.ref a) (rp_dp (dp_mono sf _ _ hp) c1) rfl
  refine repr_of_reads' r c3 (fun z => ?_) hg (by omega) (fun _ _ e => e) (fun h' u tk hk => ?_) (PyData.shown_fits (by decide) (by decide) c4 c5)
  · rw [noDict_of d c1] at z
    cases z
  · exact ⟨.str d.shown, H, I.kept (t' := tk) hk, ⟨_, rfl⟩, k _ F H (Grow.refl sf) (.str _)⟩
theorem call_reprD (hg : X.A.guards = some []) (hu : X.A.units + 65 < cLine) : CallR X (.builtin "repr") (rPn (cxK X) reprF) := by
  intro pins s σ H xs us Q I rx h
  obtain ⟨F, ds, r, sf, hd, ef, k⟩ := h
  unfold reprF at ef
  split at ef
  · split at ef
    · rename_i ok
      cases ef
      obtain ⟨v, rfl, hv⟩ := da1 hd
      have hv' := hv
      cases hv' with
      | lst h1 d1 =>
        rw [Vals.ref1 rx]
        exact repr_ref hg hu I sf hv ok k
    · cases ef
  · split at ef
    · rename_i ok
      cases ef
      obtain ⟨v, rfl, hv⟩ := da1 hd
      have hv' := hv
      cases hv' with
      | tup h1 d1 =>
        rw [Vals.ref1 rx]
        exact repr_ref hg hu I sf hv ok k
    · cases ef
  · cases ef
theorem bb_repr : bootBuiltins "repr" = some (.builtin "repr") := by decide +kernel
end
section
variable {P : Program} {w : World} {K : PySem.W.Frag} {mg mb : Str → Option Value}
/-- the script as the layer sees it -/
theorem script_st {s₁ : Shared} {a : Addr} {vs : List Value} {ns : List Int} (KX : K.In s₁.heap) (ha : s₁.heap.get? a = some { cls := .type "list", data := .seq vs.toArray }) (hi : IntsAre vs ns) (hl : ns.length ≤ sizeLine) :
    ∃ H : Hp, Only H ∧ SqL K H a (ns.map V.int) ∧ HOk P w H s₁.heap ∧ (∀ b, H b ≠ none → b = a) ∧ (H a ≠ none → K.lookup a = none) := by
  have rv := vals_ints hi
  have lenV := hi.length
  by_cases hk : K.lookup a = none
  · have ev : ∀ {b : Addr} {u : HO}, (if b = a then some (HO.frz { cls := .type "list", data := .seq vs.toArray } (.lst (ns.map V.int))) else none) = some u → b = a ∧ u = .frz { cls := .type "list", data := .seq vs.toArray } (.lst (ns.map V.int)) := fun {b u} h => by
      by_cases z : b = a
      · rw [if_pos z] at h
        exact ⟨z, (Option.some.inj h).symm⟩
      · rw [if_neg z] at h
        cases h
    refine ⟨fun b => if b = a then some (.frz { cls := .type "list", data := .seq vs.toArray } (.lst (ns.map V.int))) else none, fun b => ?_, .inl (.inr ⟨_, if_pos rfl⟩), fun b u z => ?_, fun b z => ?_, fun _ => hk⟩
    · by_cases z : b = a
      · exact .inr ⟨_, _, if_pos z⟩
      · exact .inl (if_neg z)
    · obtain ⟨rfl, rfl⟩ := ev z
      exact ⟨ha, by rw [List.length_map]; exact hl, vs, _, rv, ha⟩
    · by_cases y : b = a
      · exact y
      · exact absurd (if_neg y) z
  · obtain ⟨o, hk⟩ := Option.ne_none_iff_exists'.mp hk
    have e := KX a o hk
    rw [ha] at e
    cases e
    exact ⟨fun _ => none, fun _ => .inl rfl, .inr ⟨_, vs.toArray, _, hk, rfl, rfl, rfl, by rw [List.size_toArray, lenV]; exact hl, by simpa using rv⟩, fun b u z => (by cases z), fun b z => absurd rfl z, fun z => absurd rfl z⟩
theorem law_body {k : Nat} {f a : Addr} {fd : FuncData} {st : Stmt} {N : List Str} {g : Sd} {s₁ : Shared} {vs : List Value} {ns : List Int}
    (Fn : Fun K "law" "law" st f fd) (S : FnScope N ["script"] (defScope st)) (KX : K.In s₁.heap) (hns : s₁.heap.Ns mainGlobals mg) (hb : s₁.heap.Ns builtinsNs mb) (hbb : ∀ x : Str, x ≠ "__name__" → mb x = bootBuiltins x) (hlim : s₁.heap.NoLimit) (hg : s₁.gens = #[])
    (ha : s₁.heap.get? a = some { cls := .type "list", data := .seq vs.toArray }) (hi : IntsAre vs ns) (hl : ns.length ≤ 63) (hr : Room (k + 1) callerA) (hbind : ∀ (s : Shared) (u : Value), BindsTo s fd ⟨[u], []⟩ [("script", u)])
    (body : ∀ (base : Heap) (cdv : Value) (s : Shared) (H : Hp) (E : XK), K.In base → base.Ns mainGlobals mg → DSs (cxOf CX0 P w K mg base N "law" (defScope st) f cdv callerA [] s H E).nox (defBody st) g)
    (ok : runV N.length g [.list (ns.map PyData.int)] = some (.bool true)) :
    codeAny (model P w) callerA (.call (.ref f) ⟨[.ref a], []⟩) (fun r s' => r = .ok (.ret (.bool true)) ∧ OldK s₁.heap s'.heap ∧ s'.os = s₁.os ∧ AllBare s'.gens) s₁ := by
  obtain ⟨H, hO, hS, hok, hA, hK⟩ := script_st (P := P) (w := w) KX ha hi (Nat.le_trans hl (by decide))
  have base_of : ∀ {b : Addr} {o : Obj}, s₁.heap.get? b = some o → H b = none → (hidT s₁.heap H).get? b = some o := fun e n => hidT_get e n
  have noA : ∀ {b : Addr} {o : Obj} {es : Array DictEntry} {ep : Nat}, s₁.heap.get? b = some o → o.data = .dict es ep → H b = none := fun {b o es ep} e d => by
    by_cases q : H b = none
    · exact q
    · have e' := hA b q
      subst e'
      rw [ha] at e
      cases e
      cases d
  have nsK : ∀ {b : Addr} {m : Str → Option Value}, s₁.heap.Ns b m → (hidT s₁.heap H).Ns b m := fun {b m} ⟨o, es, ep, e, d, r⟩ => ⟨o, es, ep, base_of e (noA e d), d, r⟩
  have hKb : K.In (hidT s₁.heap H) := fun b o e => base_of (KX b o e) (by
    by_cases q : H b = none
    · exact q
    · have e' := hA b q
      subst e'
      rw [hK q] at e
      cases e)
  have hM : Mod K mg (hidT s₁.heap H) := ⟨hKb, nsK hns, ⟨mb, nsK hb, hbb⟩, let ⟨mc, h1, h2⟩ := hlim; ⟨mc, nsK h1, h2⟩⟩
  have e0 : Env0 P w K mg (hidT s₁.heap H) callerA [] s₁ H := ⟨rfl, hM, fun b o e => of_hidT e, Nat.le_of_eq (hidT_size _ _), trivial, fun b hb => absurd (show b ∈ ([] : List Addr) from hb) (by simp), hok, .of_eq hg⟩
  obtain ⟨oc, od, kV, doc, pm, an, cdv, ct, osl, rfl, lk, hcd⟩ := Fn.ex
  have hkind : ∀ y ∈ ([("script" : Str)] : List Str).zip [Value.ref a], (defScope st).names.lookup y.1 = some .local ∨ ((defScope st).names.lookup y.1 = some .cell ∧ ((cellsFrom (s₁.heap.objs.size + 1) (defScope st).names []).lookup y.1).isSome = true) := fun ⟨n, v⟩ hy => by
    rcases S.par n (List.of_mem_zip hy).1 with q | q
    · exact .inl q
    · exact .inr ⟨q, PySem.W.cellsFrom_some _ _ _ (.inl q)⟩
  have hbody := body (hidT s₁.heap H) cdv s₁ H (fun _ _ _ => False) hKb (nsK hns)
  have q0 : tDS (Kx.mk K P w) g { nx := fun _ _ => False, rt := fun v _ => v = V.bl true } (L2.start N [.ref a]) H := by
    obtain ⟨⟨fl, ρ'⟩, e1, e2⟩ := bind_some ok
    refine ⟨H, envV N.length [.list (ns.map PyData.int)], fl, ρ', st_vals (Same.refl H) (.cons (.lst hS (da_ints ns)) .nil), e1, fun σ' F' H' p s' => ?_⟩
    cases fl with
    | nx => cases e2
    | ret d =>
      cases e2
      exact fun v rv => by
        cases rv
        rfl
    | rof d => cases e2
    | brk => cases e2
    | cnt => cases e2
  refine codeAny_mono (R := CR CX0 [] P w H s₁ (fun v _ => v = .bl true) fun _ _ _ => False) ?_ fun r s' h => ?_
  · refine codeAny_call_function hr.depth (KX _ _ lk) rfl S.co S.gen rfl (PySem.W.codeRec_of KX hcd) (hbind s₁ (.ref a) _ _ _ _ ?_)
    refine wpAny_newFunctionEnv_cells S.kind hkind fun env he s1 x => ?_
    subst he
    refine ⟨hlim.keeps x.toInCall.keep, codeAny_func ?_⟩
    have I := inv_start (CX := CX0) (E := fun _ _ _ => False) (us := [.ref a]) (vs := [.ref a]) S hr.hd e0 rfl (.cons rfl .nil) x
    refine wpAny_mono (hbody.nox.run [] s1 (L2.start N [.ref a]) H _ I q0) (fun fl s' hs => ?_) fun e s' hs => hs
    cases fl with
    | next =>
      obtain ⟨_, _, _, q⟩ := hs
      exact q.elim
    | brk =>
      obtain ⟨_, _, _, q⟩ := hs
      exact False.elim q
    | cont =>
      obtain ⟨_, _, _, q⟩ := hs
      exact False.elim q
    | ret u =>
      obtain ⟨v, σ', H', J, rv, q⟩ := hs
      exact ⟨v, H', J.os, J.bare, J.base, J.hok, rv, q⟩
  · cases r with
    | error e => exact (show False from h).elim
    | ok fl =>
      cases fl with
      | next => exact False.elim h
      | brk => exact False.elim h
      | cont => exact False.elim h
      | ret u =>
        obtain ⟨v, H', os, bare, un, hok', rv, q⟩ := h
        have q' : v = .bl true := q
        subst q'
        obtain rfl : u = Value.bool true := rv
        refine ⟨rfl, OldK.of_keep fun b o e => ?_, os, bare⟩
        by_cases z : H b = none
        · exact un.keep b o e z (by intro y; exact absurd (show b ∈ ([] : List Addr) from y) (by simp)) (by simp)
        · rcases hO b with y | ⟨ob, xs, y⟩
          · exact absurd y z
          · have z2 := un.frzs b ob _ y
            obtain ⟨e1, _⟩ := hok b _ y
            obtain ⟨e2, _⟩ := hok' b _ z2
            rw [e] at e1
            cases e1
            exact e2
/-- the last row: a law whose own body is read where nothing is being shown -/
theorem walk_body {l : PySem.W.OpenLaw} {k : Nat} {q : Program} {loose : List Str} {XP : (Str → Option Value) → Heap → Prop} {YP : World → Heap → Prop} {d : DefRec} {K : Params → PySem.W.Frag} {st : Stmt} {N : List Str} {g : Sd}
    (hn : l.most = some 63) (hdf : d.params.defaults = []) (hr : Room (k + 1) callerA) (hY : ∀ (w : World) (h : Heap), YP w h → (K w.params).In h) (S : FnScope N ["script"] (defScope st))
    (F : ∀ (w : World) (mg : Str → Option Value) (fa : Addr) (h : Heap), (K w.params).In h → h.Ns mainGlobals mg → mg d.name = some (.ref fa) → ∃ fd : FuncData, Fun (K w.params) "law" "law" st fa fd ∧ (∀ (s : Shared) (u : Value), BindsTo s fd ⟨[u], []⟩ [("script", u)]) ∧
      ∀ (base : Heap) (cdv : Value) (s : Shared) (H : Hp) (E : XK), (K w.params).In base → base.Ns mainGlobals mg → DSs (cxOf CX0 l.prog w (K w.params) mg base N "law" (defScope st) fa cdv callerA [] s H E).nox (defBody st) g)
    (ok : ∀ ns : List Int, ns.length ≤ 63 → runV N.length g [.list (ns.map PyData.int)] = some (.bool true)) : PySem.W.WalkO q loose XP YP l.row.toRowW d [] (fun f vs => PySem.call f vs) := by
  refine Att.attach_call hn hdf fun w s₀ s₁ mg mb fa o pm cd doc a vs ns G Y ho hd hcd hmg hobj hints hlen hg => ?_
  have KX := hY w _ Y
  obtain ⟨fd, hF, hb, hB⟩ := F w mg fa _ KX G.T.g hmg
  exact law_body hF S KX G.T.g G.T.b G.T.builtins G.T.nolimit hg hobj hints hlen hr hb hB (ok ns hlen)
end
end Dn
set_option maxHeartbeats 2000000
namespace Dn
open PySem PySem.Spec PyProof.Rows L2 RT
section
variable {X : Cx} {tg e a b : Expr} {pos p py : Pos} {x y : Str}
/-- an operation on a list of one's own and a datum: what comes of it is no reference -/
def gOpBL (f : D → D → Option D) (i : Nat) (g : Md D) : Md D := fun ρ => (peek ρ i).bind fun _ => (g ρ).bind fun p => (peek p.2 i).bind fun d => (f d p.1).bind fun r => if flatD r = true then some (r, p.2) else none
theorem dbt_in (i : Nat) {g : Md D} (hu : X.A.units + 65 < cLine) (ha : DE X a g) (hN : X.N[i]? = some y := by rfl) (hy : Vis X.env.scope y := by first | exact Or.inl rfl | exact Or.inr (Or.inl rfl) | exact Or.inr (Or.inr rfl)) (hdy : (y == ("__debug__" : Str)) = false := by decide) (hcd : (y == ("__classdict__" : Str)) = false := by decide) (hm : behindInMarks .In (.Name y py) = false := by rfl) : DT X (.Compare a [.In] [.Name y py] pos) (gTst (gInB false i g)) :=
  pt_imp (pt_cmpR ((op_inD hu).or op_in_seq) ha (pe_var hN hy hdy hcd) hm) fun σ H Q q => by
    have q := tst_q q
    obtain ⟨F, ρ, d, ρ', s, eg, k⟩ := q
    obtain ⟨⟨d1, ρ1⟩, e1, eg1⟩ := bind_some eg
    obtain ⟨e, e2, eg2⟩ := bind_some eg1
    obtain ⟨b, e3, eg3⟩ := bind_some eg2
    cases eg3
    refine ⟨F, ρ, d1, _, s, e1, fun v F1 H1 p1 s1 r1 => ?_⟩
    obtain ⟨w, ew, rw'⟩ := peek_dp s1 e2
    exact ⟨w, ew, in_any hu (dp_mono s1.sub _ _ r1) rw' e3 (k _ F1 H1 p1 s1 (.bl _))⟩
theorem dbt_nin (i : Nat) {g : Md D} (hu : X.A.units + 65 < cLine) (ha : DE X a g) (hN : X.N[i]? = some y := by rfl) (hy : Vis X.env.scope y := by first | exact Or.inl rfl | exact Or.inr (Or.inl rfl) | exact Or.inr (Or.inr rfl)) (hdy : (y == ("__debug__" : Str)) = false := by decide) (hcd : (y == ("__classdict__" : Str)) = false := by decide) (hm : behindInMarks .NotIn (.Name y py) = false := by rfl) : DT X (.Compare a [.NotIn] [.Name y py] pos) (gTst (gInB true i g)) :=
  pt_imp (pt_cmpR ((op_notInD hu).or op_notIn_seq) ha (pe_var hN hy hdy hcd) hm) fun σ H Q q => by
    have q := tst_q q
    obtain ⟨F, ρ, d, ρ', s, eg, k⟩ := q
    obtain ⟨⟨d1, ρ1⟩, e1, eg1⟩ := bind_some eg
    obtain ⟨e, e2, eg2⟩ := bind_some eg1
    obtain ⟨b, e3, eg3⟩ := bind_some eg2
    cases eg3
    refine ⟨F, ρ, d1, _, s, e1, fun v F1 H1 p1 s1 r1 => ?_⟩
    obtain ⟨w, ew, rw'⟩ := peek_dp s1 e2
    exact ⟨w, ew, nin_any hu (dp_mono s1.sub _ _ r1) rw' e3 (k _ F1 H1 p1 s1 (.bl _))⟩
def revOf (d : D) : Option (List D) := match d with
  | .list xs => some xs.reverse
  | .tuple xs => some xs.reverse
  | _ => none
def gReve (g : Md D) : Md (List D) := fun ρ => (g ρ).bind fun p => (revOf p.1).bind fun ds => some (ds, p.2)
def numsOf : List D → Option (List Int)
  | [] => some []
  | .int i :: r => (numsOf r).bind fun ns => some (i :: ns)
  | _ => none
def sumF : List D → Option D
  | [.list xs] => (numsOf xs).bind fun ns => some (.int ns.sum)
  | _ => none
end
end Dn
set_option maxHeartbeats 2000000
namespace Dn
open PySem PySem.Spec PyProof.Rows L2
section
variable {X : Cx} {pos : Pos}
/-- {} -/
def gNewD : Md D := fun ρ => some (.dict [], ρ)
def putD (es : List (D × D)) (dk dv : D) : List (D × D) := if es.any (fun p => decide (nkD p.1 = nkD dk)) = true then es.map (fun p => if nkD p.1 = nkD dk then (p.1, dv) else p) else es ++ [(dk, dv)]
def keyTup : D → Bool
  | .tuple _ => true
  | _ => false
def sSetK (i : Nat) (gv gk : Md D) : Sd := fun ρ => (gv ρ).bind fun p => match p.2[i]? with
  | some (some (.own _ _)) => (gk p.2).bind fun q => match q.2[i]? with
    | some (some (.own b (.dict es))) => if keyTup q.1 = true ∧ (nkD q.1).isSome = true ∧ es.length < 16777216 then some (.nx, q.2.set i (some (.own b (.dict (putD es q.1 p.1))))) else none
    | _ => none
  | _ => none
def atD (es : List (D × D)) (dk : D) : Option D := (es.find? fun p => decide (nkD p.1 = nkD dk)).map (·.2)
def gGet (i : Nat) (gk gx : Md D) : Md D := fun ρ => match ρ[i]? with
  | some (some (.own _ (.dict _))) => (gk ρ).bind fun p => (gx p.2).bind fun q => match q.2[i]? with
    | some (some (.own _ (.dict es))) => if keyTup p.1 = true ∧ (nkD p.1).isSome = true then some ((atD es p.1).getD q.1, q.2) else none
    | _ => none
  | _ => none
def gIxK (i : Nat) (gk : Md D) : Md D := fun ρ => match ρ[i]? with
  | some (some (.own _ (.dict _))) => (gk ρ).bind fun p => match p.2[i]? with
    | some (some (.own _ (.dict es))) => if keyTup p.1 = true ∧ (nkD p.1).isSome = true then (atD es p.1).bind fun r => some (r, p.2) else none
    | _ => none
  | _ => none
end
end Dn
set_option maxHeartbeats 2000000
namespace Dn
open PySem PySem.Spec PyProof.Rows L2 DnSo
section
variable {X : Cx} {pos p : Pos} {x y : Str} {py : Pos}
def gSortN (i : Nat) : Md D := fun ρ => match ρ[i]? with
  | some (some (.own _ (.dict es))) => if sortOk (es.map (·.1)) = true then some (.list ((es.map (·.1)).mergeSort leD3), ρ) else none
  | _ => none
def lsD : D → Option (List D)
  | .list ds => some ds
  | _ => none
def sExt (i : Nat) (g : Md D) : Sd := fun ρ => match ρ[i]? with
  | some (some (.own _ (.list _))) => (g ρ).bind fun p => match p.2[i]? with
    | some (some (.own b (.list ds))) => (lsD p.1).bind fun es => if ds.length + es.length ≤ 16777216 then some (.nx, p.2.set i (some (.own b (.list (ds ++ es))))) else none
    | _ => none
  | _ => none
end
end Dn
set_option maxHeartbeats 2000000
namespace Dn
open PySem PySem.Spec PyProof.Rows L2 DnSo
/-- an item behind the list at its key -/
def appG : List (D × D) → D → D → List (D × D)
  | [], k, x => [(k, .list [x])]
  | (k', d) :: es, k, x => if nkD k' = nkD k then (k', match d with | .list ds => .list (ds ++ [x]) | d => d) :: es else (k', d) :: appG es k x
def lenG : List (D × D) → D → Nat
  | [], _ => 0
  | (k', d) :: es, k => if nkD k' = nkD k then (match d with | .list ds => ds.length | _ => 0) else lenG es k
inductive RpG (K : Kx) (F H : Hp) : List (NestedKey × Addr × V) → List (D × D) → List Addr → Prop
  | nil : RpG K F H [] [] []
  | cons {k : NestedKey} {ka la : Addr} {dk : D} {vs : List V} {ds : List D} {xs : List (NestedKey × Addr × V)} {es : List (D × D)} {las : List Addr} (hk : nkD dk = some k) (h1 : Rp K F (.ref ka) dk) (hf : F la = none) (hh : H la = some (.lst vs)) (h2 : RpAll K F vs ds) (hn : la ∉ las) (t : RpG K F H xs es las) : RpG K F H ((k, ka, .ref la) :: xs) ((dk, .list ds) :: es) (la :: las)
theorem RpG.mono {K : Kx} {F F' H H' : Hp} (f : Same F F') : ∀ {xs es las}, RpG K F H xs es las → (∀ b ∈ las, F' b = F b ∧ H' b = H b) → RpG K F' H' xs es las
  | _, _, _, .nil, _ => .nil
  | _, _, _, .cons (la := la) hk h1 hf hh h2 hn t, h => by
    obtain ⟨e1, e2⟩ := h la List.mem_cons_self
    exact .cons hk (dp_mono f _ _ h1) (e1.trans hf) (e2.trans hh) (dpAll_mono f _ _ h2) hn (t.mono f fun b hb => h b (List.mem_cons_of_mem _ hb))
theorem RpG.len {K : Kx} {F H : Hp} : ∀ {xs es las}, RpG K F H xs es las → xs.length = es.length
  | _, _, _, .nil => rfl
  | _, _, _, .cons _ _ _ _ _ _ t => congrArg (· + 1) t.len
theorem RpG.free {K : Kx} {F H : Hp} : ∀ {xs es las}, RpG K F H xs es las → ∀ b ∈ las, F b = none ∧ ∃ vs, H b = some (.lst vs)
  | _, _, _, .nil, b, hb => by cases hb
  | _, _, _, .cons _ _ hf hh _ _ t, b, hb => by
    rcases List.mem_cons.mp hb with rfl | hb
    · exact ⟨hf, _, hh⟩
    · exact t.free b hb
open Classical in
/-- what stands for good, and the lists -/
noncomputable def ext (F H : Hp) (las : List Addr) : Hp := fun b => if b ∈ las then H b else F b
section
variable {X : Cx} {pos : Pos}
/-- the loop on data -/
def grpD (gt : D → Env → Option Env) (p : Nat) (g0 gk gx : Md D) : List D → List (D × D) → Env → Option (List (D × D) × Env)
  | [], es, ρ => some (es, ρ)
  | d :: ds, es, ρ => (gt d ρ).bind fun ρ1 => (g0 ρ1).bind fun q0 => (setC p (.val q0.1) q0.2).bind fun ρ2 => (gk ρ2).bind fun q1 => (gx q1.2).bind fun q2 =>
      if keyTup q1.1 = true ∧ (nkD q1.1).isSome = true ∧ es.length < 16777216 ∧ lenG es q1.1 < 16777216 then grpD gt p g0 gk gx ds (appG es q1.1 q2.1) q2.2 else none
def emptyOwn : Option (Option Cell) → Bool
  | some (some (.own false (.dict []))) => true
  | _ => false
def sGrp (i : Nat) (gi : Md (List D)) (gt : D → Env → Option Env) (p : Nat) (g0 gk gx : Md D) : Sd := fun ρ => (gi ρ).bind fun q => if emptyOwn q.2[i]? = true then
    (grpD gt p g0 gk gx q.1 [] (q.2.set i none)).bind fun r => (setC i (.val (.dict r.1)) r.2).bind fun ρ' => some (.nx, ρ') else none
end
end Dn
set_option maxHeartbeats 2000000
namespace Dn
open PySem PySem.Spec PyProof.Rows L2 DnSo
def keysTup (es : List (D × D)) : Bool := es.all fun p => keyTup p.1
section
variable {X : Cx} {pos : Pos}
def getG : D → D → D → Option D
  | .dict es, k, x => if keysTup es = true ∧ keyTup k = true ∧ (nkD k).isSome = true then some ((atD es k).getD x) else none
  | _, _, _ => none
def gGetD (go gk gx : Md D) : Md D := fun ρ => (go ρ).bind fun p => (gk p.2).bind fun q => (gx q.2).bind fun r => (getG p.1 q.1 r.1).bind fun z => some (z, r.2)
/-- l.index(x) -/
def ixOf (d : D) : List D → Nat → Option Nat
  | [], _ => none
  | x :: xs, i => if PyData.eqv x d = true then some i else ixOf d xs (i + 1)
def indF : D → D → Option D
  | .list xs, d => if SeqAt.shaped (.list xs) = true ∧ SeqAt.shaped d = true then (ixOf d xs 0).bind fun j => some (.int (j : Nat)) else none
  | _, _ => none
def gInd (go gx : Md D) : Md D := fun ρ => (go ρ).bind fun p => (gx p.2).bind fun q => (indF p.1 q.1).bind fun z => some (z, q.2)
end
end Dn
set_option maxHeartbeats 2000000
namespace Dn
open PySem PySem.Spec PyProof.Rows L2 DnSo
def lOwnD : Option (Option Cell) → Option (List D)
  | some (some (.own _ (.list ds))) => some ds
  | _ => none
def lcW (i0 : Nat) (vs : List Nat) (gt : D → Env → Option Env) (gc : Md Bool) (ge : Md D) : Nat → Nat → Env → Option (List D × Env)
  | 0, j, ρ => (lOwnD ρ[i0]?).bind fun ds => if ds.length ≤ j then some ([], ρ) else none
  | n + 1, j, ρ => (lOwnD ρ[i0]?).bind fun ds => match ds[j]? with
    | none => some ([], ρ)
    | some d => (gt d ρ).bind fun ρ1 => (gc ρ1).bind fun p => if p.1 = true then (ge p.2).bind fun q => (lcW i0 vs gt gc ge n (j + 1) (wipeE q.2 vs)).bind fun r => some (q.1 :: r.1, r.2) else lcW i0 vs gt gc ge n (j + 1) (wipeE p.2 vs)
def gLcW (i0 : Nat) (vs : List Nat) (gt : D → Env → Option Env) (gc : Md Bool) (ge : Md D) : Md D := fun ρ => (lOwnD ρ[i0]?).bind fun ds => if ds.length ≤ 16777216 ∧ vs.all (notOwn ρ) = true ∧ i0 ∉ vs then
  (lcW i0 vs gt gc ge ds.length 0 (wipeE ρ vs)).bind fun r => some (.list r.1, backE ρ vs r.2) else none
end Dn
set_option maxHeartbeats 2000000
namespace Dn
open PySem PySem.Spec PyProof.Rows L2 DnSo
def three : List D → Option (D × D × D)
  | [a, b, c] => some (a, b, c)
  | _ => none
def sPar3 (i j l : Nat) (gs : Md (List D)) : Sd := fun ρ => (gs ρ).bind fun p => (three p.1).bind fun t => (setC i (.val t.1) p.2).bind fun ρ1 => (setC j (.val t.2.1) ρ1).bind fun ρ2 => (setC l (.val t.2.2) ρ2).bind fun ρ3 => some (.nx, ρ3)
end Dn
set_option maxHeartbeats 2000000
namespace Dn
open PySem PySem.Spec PyProof.Rows L2 DnSo
def addL2 : D → D → Option D
  | .list xs, .list ys => if xs.length + ys.length ≤ 16777216 then some (.list (xs ++ ys)) else none
  | _, _ => none
end Dn
set_option maxHeartbeats 2000000
namespace Dn
open PySem PySem.Spec PyProof.Rows L2 DnSo
abbrev Gp := D × List D
def gpD (e : Gp) : D := .list [e.1, .list e.2]
def putG : List Gp → List Bool → D → List Gp
  | e :: es, b :: bs, x => if b = true then (e.1, e.2 ++ [x]) :: es else e :: putG es bs x
  | es, _, _ => es
def lenB : List Gp → List Bool → Nat
  | e :: es, b :: bs => if b = true then e.2.length else lenB es bs
  | _, _ => 0
def selG : List Gp → List Bool → List D
  | e :: es, b :: bs => if b = true then gpD e :: selG es bs else selG es bs
  | _, _ => []
def adrs : List (Addr × Addr) → List Addr
  | [] => []
  | g :: gs => g.1 :: g.2 :: adrs gs
inductive RpL (K : Kx) (F H : Hp) : List (Addr × Addr) → List Gp → Prop
  | nil : RpL K F H [] []
  | cons {g r : Addr} {kv : V} {vs : List V} {dk : D} {ds : List D} {gs : List (Addr × Addr)} {es : List Gp} (fg : F g = none) (fr : F r = none) (hg : H g = some (.lst [kv, .ref r])) (hr : H r = some (.lst vs)) (rk : Rp K F kv dk) (rv : RpAll K F vs ds) (n1 : g ≠ r) (n2 : g ∉ adrs gs) (n3 : r ∉ adrs gs) (t : RpL K F H gs es) : RpL K F H ((g, r) :: gs) ((dk, ds) :: es)
theorem adrs_in1 {g r : Addr} {gs : List (Addr × Addr)} : g ∈ adrs ((g, r) :: gs) := List.mem_cons_self
theorem adrs_in2 {g r : Addr} {gs : List (Addr × Addr)} : r ∈ adrs ((g, r) :: gs) := List.mem_cons_of_mem _ List.mem_cons_self
theorem adrs_in3 {b g r : Addr} {gs : List (Addr × Addr)} (h : b ∈ adrs gs) : b ∈ adrs ((g, r) :: gs) := List.mem_cons_of_mem _ (List.mem_cons_of_mem _ h)
theorem adrs_app {b g r : Addr} : ∀ {gs : List (Addr × Addr)}, b ∈ adrs (gs ++ [(g, r)]) → b ∈ adrs gs ∨ b = g ∨ b = r
  | [], h => by
    simp [adrs] at h
    exact .inr h
  | (g', r') :: gs, h => by
    rcases List.mem_cons.mp h with rfl | h
    · exact .inl adrs_in1
    · rcases List.mem_cons.mp h with rfl | h
      · exact .inl adrs_in2
      · rcases adrs_app h with h | h
        · exact .inl (adrs_in3 h)
        · exact .inr h
theorem RpL.mono {K : Kx} {F F' H H' : Hp} (f : Same F F') : ∀ {gs es}, RpL K F H gs es → (∀ b ∈ adrs gs, F' b = F b ∧ H' b = H b) → RpL K F' H' gs es
  | _, _, .nil, _ => .nil
  | _, _, .cons fg fr hg hr rk rv n1 n2 n3 t, h => by
    obtain ⟨e1, e2⟩ := h _ adrs_in1
    obtain ⟨e3, e4⟩ := h _ adrs_in2
    exact .cons (e1.trans fg) (e3.trans fr) (e2.trans hg) (e4.trans hr) (dp_mono f _ _ rk) (dpAll_mono f _ _ rv) n1 n2 n3 (t.mono f fun b hb => h b (adrs_in3 hb))
theorem RpL.len {K : Kx} {F H : Hp} : ∀ {gs es}, RpL K F H gs es → gs.length = es.length
  | _, _, .nil => rfl
  | _, _, .cons _ _ _ _ _ _ _ _ _ t => congrArg (· + 1) t.len
theorem RpL.free {K : Kx} {F H : Hp} : ∀ {gs es}, RpL K F H gs es → ∀ b ∈ adrs gs, F b = none ∧ ∃ vs, H b = some (.lst vs)
  | _, _, .nil, b, hb => by cases hb
  | _, _, .cons fg fr hg hr _ _ _ _ _ t, b, hb => by
    rcases List.mem_cons.mp hb with rfl | hb
    · exact ⟨fg, _, hg⟩
    · rcases List.mem_cons.mp hb with rfl | hb
      · exact ⟨fr, _, hr⟩
      · exact t.free b hb
theorem RpL.snoc {K : Kx} {F H : Hp} {g r : Addr} {kv : V} {vs : List V} {dk : D} {ds : List D} (fg : F g = none) (fr : F r = none) (hg : H g = some (.lst [kv, .ref r])) (hr : H r = some (.lst vs)) (rk : Rp K F kv dk) (rv : RpAll K F vs ds) (n1 : g ≠ r) : ∀ {gs es}, RpL K F H gs es → g ∉ adrs gs → r ∉ adrs gs → RpL K F H (gs ++ [(g, r)]) (es ++ [(dk, ds)])
  | _, _, .nil, _, _ => .cons fg fr hg hr rk rv n1 (by simp [adrs]) (by simp [adrs]) .nil
  | _, _, .cons (g := g') (r := r') fg' fr' hg' hr' rk' rv' n1' n2' n3' t, m1, m2 => by
    have a1 : g' ≠ g := fun z => m1 (z ▸ adrs_in1)
    have a2 : r' ≠ g := fun z => m1 (z ▸ adrs_in2)
    have a3 : g' ≠ r := fun z => m2 (z ▸ adrs_in1)
    have a4 : r' ≠ r := fun z => m2 (z ▸ adrs_in2)
    refine .cons fg' fr' hg' hr' rk' rv' n1' (fun z => ?_) (fun z => ?_) (t.snoc fg fr hg hr rk rv n1 (fun z => m1 (adrs_in3 z)) fun z => m2 (adrs_in3 z))
    · rcases adrs_app z with z | z | z
      · exact n2' z
      · exact a1 z
      · exact a3 z
    · rcases adrs_app z with z | z | z
      · exact n3' z
      · exact a2 z
      · exact a4 z
def noOwn (ρ : Env) : Bool := ρ.all fun c => match c with
  | some (.own _ _) => false
  | _ => true
def selB (v : Nat) (gc : Md Bool) : List Gp → Env → Option (List Bool × Env)
  | [], ρ => some ([], ρ)
  | e :: es, ρ => (setC v (.val (gpD e)) ρ).bind fun ρ1 => (gc ρ1).bind fun r => (selB v gc es (wipeE r.2 [v])).bind fun q => some (r.1 :: q.1, q.2)
section
variable {X : Cx} {pos : Pos}
/-- a turn on data -/
def turnL (p q v : Nat) (gk : Md D) (gc g0 : Md Bool) (g2 gx : Md D) (es : List Gp) (ρ1 : Env) : Option (List Gp × Env) :=
  (gk ρ1).bind fun k => (setC p (.val k.1) k.2).bind fun ρ3 => (selB v gc es (wipeE ρ3 [v])).bind fun bs => (setC q (.val (.list (selG es bs.1))) ρ3).bind fun ρ4 => (g0 ρ4).bind fun b =>
    if noOwn ρ3 = true ∧ es.length < 16777216 ∧ lenB es bs.1 < 16777216 ∧ b.1 = (selG es bs.1).isEmpty then
      if b.1 = true then (g2 (ρ3.set q none)).bind fun k2 => (gx k2.2).bind fun x => some (es ++ [(k2.1, [x.1])], x.2)
      else (gx (ρ3.set q none)).bind fun x => some (putG es bs.1 x.1, x.2)
    else none
/-- the loop on data -/
def grpLD (gt : D → Env → Option Env) (p q v : Nat) (gk : Md D) (gc g0 : Md Bool) (g2 gx : Md D) : List D → List Gp → Env → Option (List Gp × Env)
  | [], es, ρ => some (es, ρ)
  | d :: ds, es, ρ => (gt d ρ).bind fun ρ1 => (turnL p q v gk gc g0 g2 gx es ρ1).bind fun r => grpLD gt p q v gk gc g0 g2 gx ds r.1 r.2
def emptyOwnL : Option (Option Cell) → Bool
  | some (some (.own false (.list []))) => true
  | _ => false
def sGrpL (i : Nat) (gi : Md (List D)) (gt : D → Env → Option Env) (p q v : Nat) (gk : Md D) (gc g0 : Md Bool) (g2 gx : Md D) : Sd := fun ρ => (gi ρ).bind fun w => if emptyOwnL w.2[i]? = true then
    (grpLD gt p q v gk gc g0 g2 gx w.1 [] (w.2.set i none)).bind fun r => (setC i (.val (.list (r.1.map gpD))) r.2).bind fun ρ' => some (.nx, ρ') else none
/-- a, b = a list -/
def gTLst (n : Nat) (gs : List D → Env → Option Env) : D → Env → Option Env
  | .list ds, ρ => if ds.length = n then gs ds ρ else none
  | _, _ => none
end
end Dn
set_option maxHeartbeats 1000000
namespace Gz
open PySem
open Sem (wp)
def onlyRet : List Frame → Bool
  | [] => true
  | .ret .. :: fs => onlyRet fs
  | .gen .. :: _ => false
def flatF (F : Frame) : Frame := .ret (fun _ => .unsupported "") none false [] F.where_.1 F.where_.2 []
/-- as it is, but it can't be woken -/
def dead : GenState → GenState
  | .suspended _ l c p fs cl => .suspended (fun _ => .unsupported "") l c p (fs.map flatF) cl
  | x => x
def susp : GenState → Bool
  | .suspended .. => true
  | _ => false
/-- the one table and the other: those that z names sleep in the one so that they can't be woken -/
def Rel (z : Nat → Option GenState) (a b : Array GenState) : Prop := a.size = b.size ∧ ∀ i : Nat, match z i with
  | some x => a[i]? = some (dead x) ∧ b[i]? = some x ∧ susp x = true
  | none => a[i]? = b[i]?
def TabOk (a : Array GenState) : Prop := ∀ (i : Nat) k l c p fs cl, a[i]? = some (.suspended k l c p fs cl) → onlyRet fs = true
def genOk : GenState → Bool
  | .suspended _ _ _ _ fs _ => onlyRet fs
  | _ => true
theorem Rel.set {z : Nat → Option GenState} {a b : Array GenState} (h : Rel z a b) {g : Nat} (hz : z g = none) (y : GenState) : Rel z (a.setIfInBounds g y) (b.setIfInBounds g y) := by
  refine ⟨by simp [h.1], fun i => ?_⟩
  by_cases hi : g = i
  · subst hi
    rw [hz]
    show (a.setIfInBounds g y)[g]? = (b.setIfInBounds g y)[g]?
    rw [Array.getElem?_setIfInBounds, Array.getElem?_setIfInBounds, h.1, if_pos rfl, if_pos rfl]
  · have e1 : (a.setIfInBounds g y)[i]? = a[i]? := Array.getElem?_setIfInBounds_ne hi
    have e2 : (b.setIfInBounds g y)[i]? = b[i]? := Array.getElem?_setIfInBounds_ne hi
    rw [e1, e2]
    exact h.2 i
theorem TabOk.set {a : Array GenState} (h : TabOk a) {g : Nat} {y : GenState} (hy : genOk y = true) : TabOk (a.setIfInBounds g y) := by
  intro i k l c p fs cl e
  by_cases hi : g = i
  · subst hi
    rw [Array.getElem?_setIfInBounds] at e
    rw [if_pos rfl] at e
    split at e
    · cases e
      exact hy
    · cases e
  · rw [Array.getElem?_setIfInBounds_ne hi] at e
    exact h i k l c p fs cl e
theorem Rel.push {z : Nat → Option GenState} {a b : Array GenState} (h : Rel z a b) (y : GenState) : Rel z (a.push y) (b.push y) := by
  refine ⟨by simp [h.1], fun i => ?_⟩
  have e1 : ∀ c : Array GenState, (c.push y)[i]? = if i = c.size then some y else c[i]? := fun c => Array.getElem?_push
  have q := h.2 i
  cases hz : z i with
  | none =>
    rw [hz] at q
    show (a.push y)[i]? = (b.push y)[i]?
    rw [e1, e1, h.1, q]
  | some x =>
    rw [hz] at q
    show (a.push y)[i]? = some (dead x) ∧ (b.push y)[i]? = some x ∧ susp x = true
    obtain ⟨q1, q2, q3⟩ := q
    have hl : i < b.size := by
      rw [Array.getElem?_eq_some_iff] at q2
      exact q2.1
    have hs := h.1
    rw [e1, e1, if_neg (by omega), if_neg (by omega)]
    exact ⟨q1, q2, q3⟩
theorem TabOk.push {a : Array GenState} (h : TabOk a) {y : GenState} (hy : genOk y = true) : TabOk (a.push y) := by
  intro i k l c p fs cl e
  rw [Array.getElem?_push] at e
  split at e
  · cases e
    exact hy
  · exact h i k l c p fs cl e
/-- what slept sleeps on -/
def Kept (a b : Array GenState) : Prop := ∀ (i : Nat) (x : GenState), a[i]? = some x → susp x = true → b[i]? = some x
theorem Kept.refl (a : Array GenState) : Kept a a := fun _ _ h _ => h
theorem Kept.trans {a b c : Array GenState} (h : Kept a b) (h' : Kept b c) : Kept a c := fun i x e s => h' i x (h i x e s) s
end Gz
set_option maxHeartbeats 1000000
namespace Gz
open PySem PySem.Spec PyProof.Rows L2 Dn GenW
def cutH (n : Nat) (h : Heap) : Heap := { h with objs := h.objs.take n }
abbrev rb (X : Cx) (s : Shared) (H : Hp) (n : Nat) : Cx := { X with s_0 := { s with heap := cutH n s.heap }, H_0 := H }
section
variable {X : Cx} {n : Nat} {a : Addr} {g : Nat} {go : Obj} {ip ipw : List (Addr × Obj)} {σ : L2.St} {F Fw Hw H H2 F2 : Hp} {s₀ s s' : Shared} {ρ : Dn.Env}
/-- no list of one's own in it -/
def noOwn (ρ : Dn.Env) : Bool := ρ.all fun o => match o with
  | some (.own _ _) => false
  | _ => true
end
abbrev Gd := Dn.Env → Option (List D × Fl × Dn.Env)
def gP (s : Sd) : Gd := fun ρ => (s ρ).bind fun p => some ([], p.1, p.2)
def gEnd : Gd := fun ρ => some ([], .nx, ρ)
def gThen (s t : Gd) : Gd := fun ρ => (s ρ).bind fun p => match p.2.1 with
  | .nx => (t p.2.2).bind fun q => some (p.1 ++ q.1, q.2)
  | _ => some p
def gYield (e : Md D) : Gd := fun ρ => (e ρ).bind fun p => if noOwn p.2 = true then some ([p.1], .nx, p.2) else none
end Gz
set_option maxHeartbeats 1000000
namespace Gz
open PySem PySem.Spec PyProof.Rows L2 Dn GenW
section
variable (P : Program) (w : World) (K : PySem.W.Frag) (mg : Str → Option Value) (base : Heap) (N : List Str) (qual : Str) (scope : Scope) (f : Addr) (cd : Value)
/-- the context of a generator's body; a: where its object stands -/
abbrev gX (B : Around) (outer : List PySem.Env) (s : Shared) (H : Hp) (a : Addr) (go : Obj) : Cx :=
  { (cxOf CX0 P w K mg base N qual scope f cd B outer s H fun _ _ _ => False).nox with pn := [(a, go)] }
end
end Gz
set_option maxHeartbeats 1000000
namespace Gz
open PySem PySem.Spec PyProof.Rows L2 Dn GenW
section
variable {C : Cx} {pins : List (Addr × Obj)} {n : Nat} {a : Addr} {g : Nat} {go : Obj} {N : List Str} {qual : Str} {scope : Scope} {f : Addr} {cd : Value} {sc : Shared} {Hc : Hp} {σ : L2.St} {F H Fs : Hp} {s ss : Shared} {T : List Addr}
abbrev gC (C : Cx) (N : List Str) (qual : Str) (scope : Scope) (f : Addr) (cd : Value) (sc : Shared) (Hc : Hp) (a : Addr) (go : Obj) : Cx := gX C.prog C.w C.K C.mg C.base N qual scope f cd C.A.in1 C.stack sc Hc a go
/-- the generator's things -/
def Gt (n : Nat) (a : Addr) (g : Nat) (H : Hp) (s : Shared) : Prop := (∀ b ∈ [n, a], H b = none ∧ ∃ o, s.heap.get? b = some o ∧ ∀ v, o.data ≠ .cell v) ∧ s.heap.IsGen a g
end
end Gz
set_option maxHeartbeats 2000000
namespace Gz
open PySem PySem.Spec PyProof.Rows L2 Dn GenW
/-- all that it hands out -/
def runG (N : Nat) (gd : Gd) (args : List D) : Option (List D) := (gd (envV N args)).bind fun p => match p.2.1 with
  | .nx => some p.1
  | _ => none
def gCallG (f : List D → Option (List D)) (gs : Md (List D)) : Md (List D) := fun ρ => (gs ρ).bind fun p => (f p.1).bind fun ds => some (ds, p.2)
end Gz
set_option maxHeartbeats 2000000
namespace Gz
open PySem PySem.Spec PyProof.Rows L2 Dn GenW
end Gz
set_option maxHeartbeats 2000000
namespace Gz
open PySem PySem.Spec PyProof.Rows L2 Dn GenW
end Gz
set_option maxHeartbeats 4000000
namespace Dn
open PySem PySem.Spec PyProof.Rows L2 DnSo
end Dn
set_option maxHeartbeats 4000000
namespace Dn
open PySem PySem.Spec PyProof.Rows L2 DnSo PpSet
end Dn
set_option maxHeartbeats 4000000
namespace Dn
open PySem PySem.Spec PyProof.Rows L2 DnSo
end Dn
set_option maxHeartbeats 4000000
namespace Dn
open PySem PySem.Spec PyProof.Rows L2 DnSo
end Dn
set_option maxHeartbeats 2000000
namespace Dn
open PySem PySem.Spec PyProof.Rows L2
end Dn
set_option maxHeartbeats 2000000
namespace Dn
open PySem PySem.Spec PyProof.Rows L2
def keyEq : D → D → Bool
  | .int i, .int j => decide (i = j)
  | .str x, .str y => decide (x = y)
  | _, _ => false
def isKey : D → Bool
  | .int _ => true
  | .str _ => true
  | _ => false
/-- a dict of such keys, or the empty one -/
def dkOk : List (D × D) → Bool
  | [] => false
  | [(.none, _)] => true
  | es => es.all fun p => isKey p.1
section
variable {X : Cx} {e tg : Expr} {apos cpos pos : Pos}
/-- for k in d -/
def keysU (es : List (D × D)) : List D := (es.map (·.1)).filter isKey
def gKeys (g : Md D) : Md (List D) := fun ρ => (g ρ).bind fun p => match p.1 with
  | .dict es => if dkOk es = true then some (keysU es, p.2) else none
  | _ => none
end
end Dn
set_option maxHeartbeats 2000000
namespace Dn
open PySem PySem.Spec PyProof.Rows L2
end Dn
set_option maxHeartbeats 2000000
namespace Dn
open PySem PySem.Spec PyProof.Rows L2
end Dn
set_option maxHeartbeats 2000000
namespace Dn
open PySem PySem.Spec PyProof.Rows L2
def putU (es : List (D × D)) (k v : D) : List (D × D) := if es.any (fun p => keyEq p.1 k) = true then es.map (fun p => if keyEq p.1 k = true then (p.1, v) else p) else es ++ [(k, v)]
section
variable {X : Cx} {x : Str} {pos p : Pos}
def sNewT (i : Nat) : Sd := fun ρ => (setC i (.own false (.tuple [.dict []])) ρ).bind fun r => some (.nx, r)
/-- such a dict comes to stand for good -/
def frzT : List (D × D) → D
  | [] => .dict [(.none, .none)]
  | es => .dict es
def gFrzT (i : Nat) : Md D := fun ρ => match ρ[i]? with
  | some (some (.val d)) => some (d, ρ)
  | some (some (.own false (.tuple [.dict es]))) => some (frzT es, ρ.set i (some (.val (frzT es))))
  | _ => none
end
end Dn
set_option maxHeartbeats 2000000
namespace Dn
open PySem PySem.Spec PyProof.Rows L2
mutual
/-- no dict with tuple keys -/
def noN : D → Bool
  | .dict es => dkOk es && noNKV es
  | .list ds => noNAll ds
  | .tuple ds => noNAll ds
  | _ => true
def noNAll : List D → Bool
  | [] => true
  | d :: ds => noN d && noNAll ds
def noNKV : List (D × D) → Bool
  | [] => true
  | (_, d) :: es => noN d && noNKV es
end
end Dn
namespace Dn
open PySem L2
end Dn
set_option maxHeartbeats 2000000
namespace Tw
open PySem PySem.W PySem.Calls PyProof.Rows PySem.HandSPX
def iA (p1 p2 : Pos) : Arguments := { posonlyargs := [], args := [{ arg := "self", annotation := none, pos := p1 }, { arg := "message", annotation := none, pos := p2 }], vararg := none, kwonlyargs := [], kw_defaults := [], kwarg := none, defaults := [] }
def iB (q0 q1 q2 q3 q4 q5 r1 r2 r3 r4 : Pos) : List Stmt := [.Expr (.Call (.Attribute (.Call (.Name "super" q0) [] [] q1) "__init__" q2) [.Name "message" q3] [] q4) q5, .Assign [.Attribute (.Name "self" r1) "message" r2] (.Name "message" r3) r4]
def iS : Scope := { kind := .function, names := [(PySem.Str.ofString "self", .local), (PySem.Str.ofString "message", .local), (PySem.Str.ofString "__class__", .free), (PySem.Str.ofString "super", .globalImplicit)], isGenerator := false, isCoroutine := false, more := [] }
/-- what the written part says of the class n, at C, its base at T (whose __init__ is at fI) -/
structure TdTxt (P : Program) (K : Frag) (mg : Str → Option Value) (n : Str) (C T fI : Addr) : Prop where
  gC : mg n = some (.ref C)
  cls : ∃ nm q N bs bm sn sub ab col dd k0 k1 k2 k3 k5, K.lookup C = some (excClassObj nm q C N bs bm true sn sub ab col dd k0 k1 k2 k3 k5 "ValueError.__new__") ∧ refsVE bm = true
  sa : findIn K (.ref C) "__setattr__" = some (some (.builtin "object.__setattr__"))
  ga : findIn K (.ref C) "__getattribute__" = some (some (.builtin "BaseException.__getattribute__"))
  gg : findIn K (.ref C) "__getattr__" = some none
  noN : findIn K (.ref C) "message" = some none
  iC : findIn K (.ref C) "__init__" = some (some (.ref fI))
  tC : typeIn K (.ref fI) = some (.type "function")
  kC : keepIn K (.ref C) = true
  exC : subIn K (.ref C) (.type "BaseException") = some true
  veC : subIn K (.ref C) (.type "ValueError") = some true
  tyC : typeIn K (.ref C) = some (.type "type")
  hdC : hasDictIn K C = true
  isC : isClsIn K C = true
  caC : findIn K (.ref C) "__class__" = some (some (.builtin "object.__class__"))
  caN : specialIn K (.builtin "object.__class__") "__get__" = some (some (.builtin "getset_descriptor.__get__"))
  caT : takesIn K (.builtin "object.__class__") = some true
  caM : mroIn K C (.type "object") = some true
  fn : ∃ (oc : Value) (od : Option Addr) (doc pm : Value) (an : Option Addr) (cda : Addr) (ct : Value) (cc : Addr) (osl : Array (Option Value)) (p1 p2 q0 q1 q2 q3 q4 q5 r1 r2 r3 r4 : Pos),
    K.lookup fI = some ⟨oc, od, .func (ksFn "__init__" "TideweirError.__init__" (iA p1 p2) (iB q0 q1 q2 q3 q4 q5 r1 r2 r3 r4) iS .none .none doc pm an (.ref cda) ct cc), osl⟩ ∧ (q2.endLine == q4.line) = true ∧ codeIn K (.ref cda) "TideweirError.__init__" = true ∧
    (∃ ccl cdd vs ccs file tf, K.lookup cda = some ⟨ccl, cdd, .fields vs, ccs⟩ ∧ vs[2]? = some (.str file tf) ∧ ((P.main.file : Str) == file) = true) ∧
    ∃ cl cld csl, K.lookup cc = some ⟨cl, cld, .cell (some (.ref T)), csl⟩
  cT : ∃ cd, clsIn K T = some cd
  sT : mroIn K C (.ref T) = some true
  nsu : mg "super" = none
  op : nsIn K cStatics "thirdparty.any" = some none
  ksu : ks_superIn K C T "__init__" = some (some (.builtin "ValueError.__init__"))
  top : (P.main.scope.names.lookup ("super" : Str)).isSome = false
theorem one_size (v : Value) : [v].length ≤ sizeLine := by
  rw [sizeLine_eq]
  exact (by decide : 1 ≤ 16777216)
/-- what __init__ leaves of a fresh exception at x -/
structure InitEnd (h h' : Heap) (x C dx : Addr) (v : Value) : Prop where
  keep : ∀ b o, b ≠ x → h.get? b = some o → h'.get? b = some o
  obj : ∃ t1 : Addr, h'.get? x = some { cls := .ref C, dict := some dx, data := .fields #[.ref t1, .none, .none, .none, .bool false, .none] }
  dbig : h.objs.size ≤ dx
  dne : dx ≠ x
  ns : h'.Ns1 dx (fun y => if y = "message" then some v else none)
structure OwnMade (h h' : Heap) (e C d : Addr) (v : Value) : Prop where
  keep : ∀ b o, h.get? b = some o → h'.get? b = some o
  new : h.objs.size ≤ e
  obj : ∃ oe vs, h'.get? e = some oe ∧ oe.cls = .ref C ∧ oe.dict = some d ∧ oe.data = .fields vs ∧ vs[1]? = some .none
  dbig : h.objs.size ≤ d
  dne : d ≠ e
  ns : h'.Ns1 d (fun y => if y = "message" then some v else none)
section
variable {prog : Program} {w : World} {A : Around} {E : Value → Shared → Prop} {R : Result → Shared → Prop} {s : Shared} {K : Frag} {mg : Str → Option Value} {n : Str} {C Tc fI : Addr}
theorem wpAt_ldL {c : Code} {M : Model} {env : Env} {m : Str → Option Value} {x : Str} {pos : Pos} {v : Value} {Q : Value → Shared → Prop} {L : Addr} (hn : s.heap.Ns L m) (hL : env.locals = L) (hv : m x = some v) (h : Q v s)
    (hk : env.scope.kind = .function) (hl : env.kindOf x = some .local) (hd : (x == ("__debug__" : Str)) = false) : wpAny M A (eval (.Name x pos) env) Q E s := by
  subst hL
  exact wpAny_Name (wpAny_loadName_local hk hl hn hv h) hd
theorem eval_mc {o : Expr} {name : Str} {q2 q4 : Pos} {a : Expr} {env : Env} (h : (q2.endLine == q4.line) = true) (hf : methodCallForm 1 (backTo q4 (starEach [a] env)) [] = true) : eval (.Call (.Attribute o name q2) [a] [] q4) env = (do
    let ov ← attributeBase o name env (eval o env)
    standAt q2.atName
    let (f, first) ← holding [ov] (getMethod ov name (do return (← importBound o env).getD true))
    callWith q4 f first (backTo q4 (starEach [a] env)) []) := by
  show (attributeBase o name env (eval o env) >>= fun ov => standAt q2.atName >>= fun _ => methodCall o name q2 q4 env ov 1 (backTo q4 (starEach [a] env)) []) = _
  refine congrArg (bind _) (funext fun ov => congrArg (bind _) (funext fun _ => ?_))
  unfold methodCall
  rw [hf]
  have hp : methodCallPos true o env q2 q4 = pure q4 := by
    unfold methodCallPos
    rw [if_pos (by rw [h]; rfl)]
  rw [hp]
  rfl
/-- ValueError.__init__ bound to x, called -/
theorem call_mw {hp : Heap} {g : Array GenState} {d : Drawn} {tk : Nat} {os : OsState} {u x t0 : Addr} {v : Value} {nm q : Str} {N : Addr} {bs bm : List Value} {sn : List Str} {sub : List Value} {ab : Bool} {col : Option Bool} {dd : Option Addr} {k0 k1 k2 k3 k5 : Option Value} {Q : Value → Shared → Prop}
    (hC : hp.get? C = some (excClassObj nm q C N bs bm true sn sub ab col dd k0 k1 k2 k3 k5 "ValueError.__new__")) (hu : hp.get? u = some (kxs_mw "ValueError.__init__" x)) (hx : hp.get? x = some (excO C t0))
    (h : ∀ h' t1, (∀ b o, b ≠ x → hp.get? b = some o → h'.get? b = some o) → h'.get? x = some (excO C t1) → Q .none ⟨h', g, d, tk, os⟩) : wpAny (model prog w) A (call (.ref u) [v]) Q E ⟨hp, g, d, tk, os⟩ := by
  refine wpAny_call (codeAny_of_tree ?_)
  show wpAny _ A.in1 (callAny (.ref u) ⟨[v], []⟩) _ _ _
  simp only [callAny]
  refine wpAny_bind (wpAny_load hu ?_)
  simp only [kxs_mw, show (Value.type "method-wrapper" == Value.type "method" || Value.type "method-wrapper" == Value.type "builtin_function_or_method" || Value.type "method-wrapper" == Value.type "method-wrapper") = true by decide, if_true]
  refine KFB.if_so (by decide) ?_
  refine wpAny_bind (ESX.check_bound F.excBase_ValueError hC hx rfl ?_)
  refine wpAny_bind (wpAny_pure (wpAny_pure ?_))
  refine ⟨plainId_quiet F.excBase_ValueError.init.plain _, codeAny_builtin F.excBase_ValueError.initEntry ?_⟩
  exact exc_init_tree (cls := .ref C) (t0 := t0) (dv := none) (c2 := .none) (c3 := .none) (b4 := .bool false) hx (one_size v) fun h' k e _ => h h' hp.objs.size k e
theorem td_init (T : TdTxt prog K mg n C Tc fI) {x t0 : Addr} {v : Value} (X : K.In s.heap) (hg : s.heap.Ns mainGlobals mg) (hb : ∃ mb, s.heap.Ns builtinsNs mb ∧ ∀ x : Str, x ≠ "__name__" → mb x = bootBuiltins x) (hlim : s.heap.NoLimit)
    (hx : s.heap.get? x = some (excO C t0)) (hnx : K.lookup x = none) (hroom : A.depth < recursionLimit) (hq : ∀ h' tk dx, InitEnd s.heap h' x C dx v → R (.ok (.ret .none)) { s with heap := h', toks := tk }) :
    codeAny (model prog w) A (.call (.ref fI) ⟨[.ref x, v], []⟩) R s := by
  obtain ⟨oc, od, doc, pm, an, cda, ct, cc, osl, p1, p2, q0, q1, q2, q3, q4, q5, r1, r2, r3, r4, ho, hql, hcd, ⟨ccl, cdd, vs, ccs, file, tf, hcode, hvs, hfile⟩, cl, cld, csl, hcell⟩ := T.fn
  obtain ⟨nm, q, N, bs, bm, sn, sub, ab, col, dd, k0, k1, k2, k3, k5, hC, hbm⟩ := T.cls
  obtain ⟨cdT, hcT⟩ := T.cT
  obtain ⟨mb, hb1, hb2⟩ := hb
  have hcl : clsIn K C = some { name := nm, bases := bs, mro := .ref C :: bm, ns := N, qualname := q, hasDict := true, slotNames := sn, subclasses := sub, abstract := ab, collection := col, hasDel := false } := by unfold clsIn; rw [hC] <;> rfl
  have hxC : x ≠ C := fun z => by rw [z, hC] at hnx; cases hnx
  have hal : alongIn K "__init__" (((.ref C :: bm : List Value).dropWhile (· != .ref Tc)).drop 1) = some (some (.builtin "ValueError.__init__")) := by
    have z := T.ksu
    unfold ks_superIn at z
    rw [hcl] at z
    exact z
  have hD2 : ∃ oD, K.lookup Tc = some oD ∧ oD.data = .cls cdT := by
    unfold clsIn at hcT
    split at hcT
    · rename_i c d cd' sl hoo
      cases hcT
      exact ⟨_, hoo, rfl⟩
    · cases hcT
  obtain ⟨oD, hD1, hD2⟩ := hD2
  obtain ⟨hp, g, d, t, os⟩ := s
  refine ks_codeAny_call_defAt (binds := [("self", .ref x), ("message", v)]) hroom (X _ _ ho) rfl hlim (codeRec_of X hcd) rfl (BindsTo.of_eq (by first | rfl | with_unfolding_all rfl)) (show ∀ x ∈ iS.names, x.2 ≠ .cell by decide) (show ∀ y ∈ ([(("self" : Str), Value.ref x), ("message", v)] : List (Str × Value)), iS.names.lookup y.1 = some .local from locs rfl) (fun h₁ hns k => ?_) rfl rfl rfl
  have X₁ : K.In h₁ := X.keeps k
  have hx₁ := k _ _ hx
  generalize hL : hp.objs.size = L at hns ⊢
  show _root_.PySem.wpAt (model prog w) (A.deeper (ksEnv "TideweirError.__init__" iS L fI (.ref cda) cc)) (.func (iB q0 q1 q2 q3 q4 q5 r1 r2 r3 r4) (ksEnv "TideweirError.__init__" iS L fI (.ref cda) cc)) (execs (iB q0 q1 q2 q3 q4 q5 r1 r2 r3 r4) (ksEnv "TideweirError.__init__" iS L fI (.ref cda) cc)) _ _ _
  refine ks_wpAt_execs_cons (ks_wpAt_Expr_any ?_)
  refine ks_wpAt_MethodCall ?_ (eval_mc hql rfl)
  refine ks_wpAt_super_base (of := ⟨oc, od, .func (ksFn "__init__" "TideweirError.__init__" (iA p1 p2) (iB q0 q1 q2 q3 q4 q5 r1 r2 r3 r4) iS .none .none doc pm an (.ref cda) ct cc), osl⟩) rfl rfl (by decide) rfl (X₁ _ _ ho) rfl rfl rfl (X₁ _ _ hcode) rfl hvs hfile T.top ?_
  refine ks_loadName_global rfl rfl (loadGlobal_builtin (hg.keeps k) T.nsu (hb1.keeps k) ((hb2 _ (by decide)).trans (by first | exact PyProof.Rows.Boot.«super» | boot_by_name | rfl | kernel_rfl)) ⟨rfl, ?_⟩)
  refine wpAny_loadName_free rfl rfl rfl ⟨_, X₁ _ _ hcell, rfl⟩ ?_
  refine wpAny_loadName_local rfl rfl hns (by first | rfl | with_unfolding_all rfl | kernel_rfl) ?_
  refine ks_wpAny_isType_cls (X₁ _ _ hD1) hD2 ⟨rfl, ?_⟩
  refine ks_wpAny_call_super (X₁ _ _ hD1) hD2 hx₁ rfl (fun c e => by cases e) (looks_mroIn X₁ T.sT) (fun h₂ e₂ k₂ => ?_)
  have X₂ : K.In h₂ := X₁.keeps k₂
  have hx₂ := k₂ _ _ hx₁
  have hns₂ := hns.keeps k₂
  have hI : Looks (model prog w) h₂ (isInstance (.ref x) (.type "ValueError")) true := (InstAt.type (M := model prog w) (h := h₂) (x := x) (ox := excO C t0) (C := C) (od := none) ⟨hx₂, rfl, rfl, trivial⟩).andThen (looks_subIn X₂ T.veC)
  refine kxs_getMethod kxs_ValueError e₂ (looks_opaque X₂ T.op) (l₀ := .ref C :: bm) (fun A Q E s k q => wpAny_bind ((looks_clsIn X₂ hcl) A _ E s k (wpAny_pure q))) rfl X₂ hal hI hxC (by decide) ?_
  generalize hu : h₂.objs.size = u
  have kp : ∀ b o, h₂.get? b = some o → (h₂.push (kxs_mw "ValueError.__init__" x)).get? b = some o := fun b o e => Heap.get?_push_of_some _ e
  have hmu : (h₂.push (kxs_mw "ValueError.__init__" x)).get? u = some (kxs_mw "ValueError.__init__" x) := by rw [← hu]; exact Heap.get?_push_at rfl rfl
  generalize hh₃ : h₂.push (kxs_mw "ValueError.__init__" x) = h₃ at kp hmu ⊢
  have X₃ : K.In h₃ := X₂.keeps kp
  refine kxs_callWith (i := "ValueError.__init__") (x := x) rfl (evalArgs_plain ?_)
  refine Calls.spliced_cons (wpAt_ldL (c := .call .none ⟨[], []⟩) (hns₂.keeps kp) rfl (by first | rfl | with_unfolding_all rfl | kernel_rfl) (Calls.spliced_nil ⟨hmu, ?_⟩) rfl rfl (by decide))
  refine call_mw (X₃ _ _ hC) hmu (kp _ _ hx₂) fun h₄ t1 k₄ hx₄ => ?_
  have hxL : x ≠ L := by rw [← hL]; exact Nat.ne_of_lt (Heap.lt_size hx)
  have X₄ : K.In h₄ := fun a o e => k₄ a o (fun z => by rw [z, hnx] at e; cases e) (X₃ a o e)
  have hns₄ : h₄.Ns L (fun y => [(("self" : Str), Value.ref x), ("message", v)].reverse.lookup y) := by
    obtain ⟨oL, es, ep, hoL, r⟩ := (hns₂.keeps kp)
    exact ⟨oL, es, ep, k₄ _ _ (Ne.symm hxL) hoL, r⟩
  show _root_.PySem.wpAt _ _ _ (execs _ _) _ _ _
  refine ks_wpAt_execs_cons (ks_wpAt_Assign_Attr ?_ rfl)
  refine _root_.PySem.wpAt_of_wpAny ?_
  refine wpAt_ldL (c := .call .none ⟨[], []⟩) (env := ksEnv "TideweirError.__init__" iS L fI (.ref cda) cc) (x := "message") (v := v) (L := L) hns₄ rfl (by first | rfl | with_unfolding_all rfl | kernel_rfl) ?_ rfl rfl (by decide)
  refine wpAt_ldL (c := .call .none ⟨[], []⟩) (env := ksEnv "TideweirError.__init__" iS L fI (.ref cda) cc) (x := "self") (v := .ref x) (L := L) hns₄ rfl (by first | rfl | with_unfolding_all rfl | kernel_rfl) ?_ rfl rfl (by decide)
  refine set_plain X₄ (ox := excO C t1) (od := none) ⟨hx₄, rfl, rfl, trivial⟩ T.sa ?_
  refine exc_osa X₄ hx₄ hcl (show refsVE (.ref C :: bm) = true from hbm) rfl T.noN (fun h₅ tk₅ dx k₅ dn dne hx₅ hn₅ => ?_)
  show _root_.PySem.wpAt _ _ _ (execs _ _) _ _ _
  refine _root_.PySem.wpAt_of_wpAny (wpAny_execs_nil (hq h₅ tk₅ dx ⟨fun b o hb e => k₅ b o hb (k₄ b o hb (kp b o (k₂ b o (k b o e)))), ⟨_, hx₅⟩, ?_, dne, hn₅⟩))
  have z1 : hp.objs.size < h₄.objs.size := by rw [hL]; exact hns₄.lt
  exact Nat.le_of_lt (Nat.lt_of_lt_of_le z1 dn)
theorem td_made (T : TdTxt prog K mg n C Tc fI) {v : Value} (X : K.In s.heap) (hg : s.heap.Ns mainGlobals mg) (hb : ∃ mb, s.heap.Ns builtinsNs mb ∧ ∀ x : Str, x ≠ "__name__" → mb x = bootBuiltins x) (hlim : s.heap.NoLimit) (hroom : A.depth + 1 < recursionLimit)
    (hq : ∀ h' tk e d, OwnMade s.heap h' e C d v → R (.ok (.ret (.ref e))) { s with heap := h', toks := tk }) :
    codeAny (model prog w) A (.call (.ref C) ⟨[v], []⟩) R s := by
  obtain ⟨nm, q, N, bs, bm, sn, sub, ab, col, dd, k0, k1, k2, k3, k5, hC, hbm⟩ := T.cls
  obtain ⟨hp, g, dr, tk, os⟩ := s
  have k : ∀ b o, hp.get? b = some o → ((hp.push (kdv_tup [v])).push (excO C hp.objs.size)).get? b = some o := fun b o e => Heap.get?_push_of_some _ (Heap.get?_push_of_some _ e)
  have hget : ((hp.push (kdv_tup [v])).push (excO C hp.objs.size)).get? (hp.objs.size + 1) = some (excO C hp.objs.size) := by heap_get
  have hnx : K.lookup (hp.objs.size + 1) = none := by
    cases e : K.lookup (hp.objs.size + 1) with
    | none => rfl
    | some o =>
      have z : hp.get? (hp.objs.size + 1) = some o := X _ _ e
      exact absurd (Nat.lt_of_succ_lt (Heap.lt_size z)) (Nat.lt_irrefl _)
  obtain ⟨mb, hb1, hb2⟩ := hb
  refine call_own F.excBase_ValueError (fun X => refsVE_contains X bm hbm) (X _ _ hC) (looks_findIn X T.iC) (fun self => bind_fn X self T.tC) (one_size v) ?_
  refine td_init (s := ⟨(hp.push (kdv_tup [v])).push (excO C hp.objs.size), g, dr, tk, os⟩) T (X.keeps k) (hg.keeps k) ⟨mb, hb1.keeps k, hb2⟩ (hlim.keeps k) hget hnx ?_ fun h' tk' dx ⟨k', hx, dn, dne, hns⟩ => ?_
  · show A.depth + 1 < recursionLimit
    exact hroom
  · have old : ∀ b o, hp.get? b = some o → h'.get? b = some o := fun b o e => k' b o (Nat.ne_of_lt (Nat.lt_succ_of_lt (Heap.lt_size e))) (k b o e)
    have z : hp.objs.size + 1 + 1 ≤ dx := by
      first
        | (simpa only [Heap.size_push] using dn)
        | exact dn
        | (have q := dn; rw [Heap.size_push, Heap.size_push] at q; exact q)
    obtain ⟨t1, hx⟩ := hx
    exact ⟨rfl, hq h' tk' (hp.objs.size + 1) dx ⟨old, Nat.le_succ _, ⟨_, _, hx, rfl, rfl, rfl, rfl⟩, Nat.le_trans (Nat.le_trans (Nat.le_succ _) (Nat.le_succ _)) z, dne, hns⟩⟩
end
end Tw
namespace L2
open PySem PySem.Spec PyProof.Rows
theorem relO_td {v : V} {v' : Value} (r : RelV v v') (f : Str) : RelO (List.lookup f [(("message" : Str), v)]) (if f = "message" then some v' else none) := by
  by_cases hw : f = "message"
  · subst hw
    rw [if_pos rfl]
    have q : List.lookup ("message" : Str) [(("message" : Str), v)] = some v := by simp [List.lookup]
    rw [q]
    exact r
  · rw [if_neg hw]
    have qw : (f == ("message" : Str)) = false := by simpa using hw
    have q2 : List.lookup f [(("message" : Str), v)] = none := by simp [List.lookup, qw]
    rw [q2]
    trivial
section
variable {X : Cx} {C Tc fI : Addr} {n : Str}
/-- C(e) -/
def tMkTd (C : Addr) (ta : TA) : St → Hp → XK → Prop := fun σ H Q => ta σ H fun vs H1 => ∃ v, vs = [v] ∧ ∀ d, H1 d = none → Q (.ref C) (some d) (upd H1 d (.xd [(("message" : Str), v)]))
theorem pmk_td {a : Expr} {ta : TA} {p pos : Pos} {k : Nat} (T : Tw.TdTxt X.prog X.K X.mg n C Tc fI) (hr : Room k X.A) (ha : PA X [a] ta) (hg : Gl X n) (hdb : (n == ("__debug__" : Str)) = false := by decide)
    (he : starEach (a :: []) X.env = (false, eval a X.env) :: starEach [] X.env := by rfl) (hpl : (backTo pos (starEach [] X.env)).any (·.1) = false := by rfl) :
    PMk X (.Call (.Name n p) [a] [] pos) (tMkTd C ta) := by
  intro pins s σ H Q I h
  refine wpAny_Call_Name_kw (ld_glob I hg T.gC ?_ hdb)
  refine PySem.W.callWith_K (h₀ := X.base) I.ok.mod.kin T.kC (thn (ha.run pos pins s σ H _ I h) fun us s1 hh => ?_) he hpl
  obtain ⟨vs, H1, I1, r1, v, ev, q1⟩ := hh
  subst ev
  refine ⟨I1.kIn, ?_⟩
  cases r1 with
  | cons rv rn =>
    rename_i v' us'
    cases rn
    show wpAny _ _ (call (.ref C) [v']) _ _ _
    have hlim := I1.nolimit
    obtain ⟨mb, hb1, hb2⟩ := I1.ok.mod.blt
    have hgl := I1.ok.mod.glob.keeps I1.bk
    have hbl := hb1.keeps I1.bk
    obtain ⟨hp, g, dr, tk, os⟩ := s1
    refine wpAny_call (Tw.td_made T I1.kIn hgl ⟨mb, hbl, hb2⟩ hlim (by have := hr.dp; omega) fun h' tk' e d M => ?_)
    show MkP X pins σ Q (.ref e) ⟨h', g, dr, tk', os⟩
    obtain ⟨oe, fv, hoe, hc, hd, hdat, h1⟩ := M.obj
    have hns := M.ns
    obtain ⟨G', g1, g2⟩ := restrict h' fun b => decide (b ≠ e)
    have gk : ∀ b, b ≠ e → G'.get? b = h'.get? b := fun b hb => g1 b (decide_eq_true hb)
    have ge : G'.get? e = none := g2 e (by simp)
    have old : ∀ b o, hp.get? b = some o → G'.get? b = some o := fun b o q => (gk b (Nat.ne_of_lt (Nat.lt_of_lt_of_le (Heap.lt_size q) M.new))).trans (M.keep b o q)
    have ob : ObjOk X.prog X.w (upd H1 d (.xd [(("message" : Str), v)])) G' d (.xd [(("message" : Str), v)]) :=
      ⟨_, hns.at (fun o q => (gk d M.dne).trans q), fun f => relO_td rv f⟩
    have J : Inv X pins σ (upd H1 d (.xd [(("message" : Str), v)])) ⟨G', g, dr, tk', os⟩ := I1.laid (t' := tk') old M.dbig ob
    refine ⟨e, oe, fv, ⟨G', g, dr, tk', os⟩, _, .ref C, some d, rfl, J, fun b o q => ?_, ge, hoe, ⟨hc, hd⟩, hdat, h1, ?_, rfl, I1.bare, raises_own T.exC T.tyC, q1 d (I1.hok.fresh M.dbig)⟩
    · by_cases hb : b = e
      · have q' : G'.get? b = some o := q
        rw [hb, ge] at q'; cases q'
      · exact (gk b hb).symm.trans q
    · rw [upd_ne (Ne.symm M.dne)]
      exact I1.hok.fresh M.new
/-- e.message, e the exception that the suite holds (at a; its class C, its dict dd) -/
def tMsg (a : Addr) (dd : Addr) (te : TE) : TE := fun σ H Q => te σ H fun x H1 => x = .ref a ∧ ∃ v : V, H1 dd = some (.xd [(("message" : Str), v)]) ∧ Q v H1
theorem pe_msg {a dd : Addr} {oe : Obj} {pn : List (Addr × Obj)} {e : Expr} {te : TE} {pos : Pos} (T : Tw.TdTxt X.prog X.K X.mg n C Tc fI) (hz : Zc (.ref C) (some dd) oe) (hf : ∃ vs, oe.data = .fields vs) (he : PE (X.suite a ((a, oe) :: pn)) e te)
    (hb : attributeBase e "message" X.env (eval e X.env) = eval e X.env := by rfl) :
    PE (X.suite a ((a, oe) :: pn)) (.Attribute e "message" pos) (tMsg a dd te) := by
  refine ⟨fun pins s σ H Q I h => ?_⟩
  refine attr_of hb (thn (he.run pins s σ H _ I h) fun u s1 hh => ?_)
  obtain ⟨x, H1, I1, rx, ex, v, ea, q⟩ := hh
  subst ex
  obtain rfl : u = Value.ref a := rx
  obtain ⟨ha, _⟩ := I1.pin (a, oe) (List.mem_append_left _ List.mem_cons_self)
  obtain ⟨vs, hd⟩ := hf
  have hx : ObjOk X.prog X.w H1 s1.heap dd (.xd [(("message" : Str), v)]) := I1.hok dd _ ea
  obtain ⟨mA, hns, hr⟩ := hx
  obtain ⟨od, ho, hl⟩ := lookIn_ns hns
  have l : List.lookup ("message" : Str) [(("message" : Str), v)] = some v := by simp [List.lookup]
  obtain ⟨u, hu, ru⟩ := RelO.some_of (v := v) (o := mA "message") (by rw [← l]; exact hr "message")
  have J : PySem.W.InstAt s1.heap a oe C (some od) := ⟨ha, hz.1, by unfold PySem.W.notCls; rw [hd] <;> rfl, by rw [hz.2]; exact ho⟩
  exact HandSPX.exc_get I1.kIn J T.ga T.gg T.exC (PySem.W.findObj_own T.hdC T.noN rfl (by rw [hl, hu])) (handed_of ru) ⟨v, H1, I1.tok _, ru, q⟩
end
end L2
set_option maxHeartbeats 2000000
namespace Dn
open PySem PySem.Spec PyProof.Rows L2
/-- what is raised: the class by its name, the message -/
structure Xc where
  c : Str
  m : Str
abbrev Mx (α : Type) := Env → Option ((α ⊕ Xc) × Env)
def xOk {α : Type} (g : Md α) : Mx α := fun ρ => (g ρ).bind fun p => some (.inl p.1, p.2)
def xBind {α β : Type} (g : Mx α) (k : α → Mx β) : Mx β := fun ρ => (g ρ).bind fun p => match p.1 with
  | .inl a => k a p.2
  | .inr x => some (.inr x, p.2)
def xPure {α : Type} (o : Option α) : Mx α := fun ρ => o.bind fun a => some (.inl a, ρ)
def xLift {α : Type} (o : Option (α ⊕ Xc)) : Mx α := fun ρ => o.bind fun a => some (a, ρ)
abbrev xdM (m : Str) : HO := .xd [(("message" : Str), .str m)]
/-- what the wish W is told of x -/
def XcOk (mg : Str → Option Value) (W : WX) (x : Xc) (σ : L2.St) (H : Hp) : Prop := ∀ (C dd : Addr), mg x.c = some (.ref C) → H dd = some (xdM x.m) → W (.ref C) (some dd) σ H
section
variable (K : Kx) (mg : Str → Option Value) (W : WX)
def tX (g : Mx D) : TE := fun σ H Q => ∃ (F : Hp) (ρ : Env) (r : D ⊕ Xc) (ρ' : Env), St K F H σ ρ ∧ g ρ = some (r, ρ') ∧
  ∀ F' H', Stp F σ ρ H F' σ ρ' H' → St K F' H' σ ρ' → match r with
    | .inl d => ∀ v, Rp K F' v d → Q v H'
    | .inr x => XcOk mg W x σ H'
def tXA (g : Mx (List D)) : TA := fun σ H Q => ∃ (F : Hp) (ρ : Env) (r : List D ⊕ Xc) (ρ' : Env), St K F H σ ρ ∧ g ρ = some (r, ρ') ∧
  ∀ F' H', Stp F σ ρ H F' σ ρ' H' → St K F' H' σ ρ' → match r with
    | .inl ds => ∀ vs, RpAll K F' vs ds → Q vs H'
    | .inr x => XcOk mg W x σ H'
def tXT (g : Mx Bool) : TT := fun σ H Q => ∃ (F : Hp) (ρ : Env) (r : Bool ⊕ Xc) (ρ' : Env), St K F H σ ρ ∧ g ρ = some (r, ρ') ∧
  ∀ F' H', Stp F σ ρ H F' σ ρ' H' → St K F' H' σ ρ' → match r with
    | .inl b => Q b H'
    | .inr x => XcOk mg W x σ H'
/-- a statement: it may leave by an exception -/
abbrev Sx := Env → Option ((Fl ⊕ Xc) × Env)
def tXS (g : Sx) : TS := fun E σ H => ∃ (F : Hp) (ρ : Env) (r : Fl ⊕ Xc) (ρ' : Env), St K F H σ ρ ∧ g ρ = some (r, ρ') ∧
  ∀ σ' F' H', Stp F σ ρ H F' σ' ρ' H' → St K F' H' σ' ρ' → match r with
    | .inl f => FlOk K E H F' σ' H' f
    | .inr x => XcOk mg W x σ' H'
end
abbrev EX (X : Cx) (W : WX) (e : Expr) (g : Mx D) : Prop := PE X e (tX (cxK X) X.mg W g)
abbrev AX (X : Cx) (W : WX) (es : List Expr) (g : Mx (List D)) : Prop := PA X es (tXA (cxK X) X.mg W g)
abbrev TX (X : Cx) (W : WX) (e : Expr) (g : Mx Bool) : Prop := PT X e (tXT (cxK X) X.mg W g)
abbrev SX (X : Cx) (W : WX) (st : Stmt) (g : Sx) : Prop := PS X st (tXS (cxK X) X.mg W g)
abbrev SXs (X : Cx) (W : WX) (st : List Stmt) (g : Sx) : Prop := PSs X st (tXS (cxK X) X.mg W g)
section
variable {X : Cx} {W : WX} {e a b c : Expr} {es : List Expr} {pos p : Pos} {x : Str} {st : Stmt} {sts : List Stmt}
theorem ok_some {α : Type} {g : Md α} {ρ ρ' : Env} {r : α ⊕ Xc} (h : xOk g ρ = some (r, ρ')) : ∃ d, r = .inl d ∧ g ρ = some (d, ρ') := by
  obtain ⟨⟨d, ρ1⟩, e1, e2⟩ := bind_some h
  cases e2
  exact ⟨d, rfl, e1⟩
theorem xb_some {α β : Type} {g : Mx α} {k : α → Mx β} {ρ ρ' : Env} {r : β ⊕ Xc} (h : xBind g k ρ = some (r, ρ')) : (∃ d ρ1, g ρ = some (.inl d, ρ1) ∧ k d ρ1 = some (r, ρ')) ∨ ∃ x, g ρ = some (.inr x, ρ') ∧ r = .inr x := by
  obtain ⟨⟨d, ρ1⟩, e1, e2⟩ := bind_some h
  cases d with
  | inl d => exact .inl ⟨d, ρ1, e1, e2⟩
  | inr x =>
    cases e2
    exact .inr ⟨x, e1, rfl⟩
theorem xp_some {α : Type} {o : Option α} {ρ ρ' : Env} {r : α ⊕ Xc} (h : xPure o ρ = some (r, ρ')) : ∃ d, o = some d ∧ r = .inl d ∧ ρ' = ρ := by
  obtain ⟨d, e1, e2⟩ := bind_some h
  cases e2
  exact ⟨d, e1, rfl, rfl⟩
theorem xl_some {α : Type} {o : Option (α ⊕ Xc)} {ρ ρ' : Env} {r : α ⊕ Xc} (h : xLift o ρ = some (r, ρ')) : o = some r ∧ ρ' = ρ := by
  obtain ⟨d, e1, e2⟩ := bind_some h
  cases e2
  exact ⟨e1, rfl⟩
theorem ex_ok {g : Md D} (h : DE X e g) : EX X W e (xOk g) := pe_imp h fun σ H Q q => by
  obtain ⟨F, ρ, r, ρ', s, eg, k⟩ := q
  obtain ⟨d, rfl, e2⟩ := ok_some eg
  exact ⟨F, ρ, d, ρ', s, e2, fun v F' H' p s' rv => k F' H' p s' v rv⟩
theorem ax_ok {g : Md (List D)} (h : DA X es g) : AX X W es (xOk g) := pa_imp h fun σ H Q q => by
  obtain ⟨F, ρ, r, ρ', s, eg, k⟩ := q
  obtain ⟨d, rfl, e2⟩ := ok_some eg
  exact ⟨F, ρ, d, ρ', s, e2, fun v F' H' p s' rv => k F' H' p s' v rv⟩
theorem tx_ok {g : Md Bool} (h : DT X e g) : TX X W e (xOk g) := pt_imp h fun σ H Q q => by
  obtain ⟨F, ρ, r, ρ', s, eg, k⟩ := q
  obtain ⟨d, rfl, e2⟩ := ok_some eg
  exact ⟨F, ρ, d, ρ', s, e2, fun F' H' p s' => k F' H' p s'⟩
theorem sx_ok {g : Sd} (h : DS X st g) : SX X W st (xOk g) := ps_imp h fun E σ H q => by
  obtain ⟨F, ρ, r, ρ', s, eg, k⟩ := q
  obtain ⟨d, rfl, e2⟩ := ok_some eg
  exact ⟨F, ρ, d, ρ', s, e2, fun σ' F' H' p s' => k σ' F' H' p s'⟩
theorem sxs_ok {g : Sd} (h : DSs X sts g) : SXs X W sts (xOk g) := pss_imp h fun E σ H q => by
  obtain ⟨F, ρ, r, ρ', s, eg, k⟩ := q
  obtain ⟨d, rfl, e2⟩ := ok_some eg
  exact ⟨F, ρ, d, ρ', s, e2, fun σ' F' H' p s' => k σ' F' H' p s'⟩
theorem ax_nl : AX X W [] (xOk gNil) := ax_ok da_nl
def xCons (g : Mx D) (gs : Mx (List D)) : Mx (List D) := xBind g fun d => xBind gs fun ds => xPure (some (d :: ds))
theorem ax_cs {g : Mx D} {gs : Mx (List D)} (ha : EX X W e g) (hr : AX X W es gs) (hs : starEach (e :: es) X.env = (false, eval e X.env) :: starEach es X.env := by rfl) : AX X W (e :: es) (xCons g gs) :=
  pa_imp (pa_cons ha hr hs) fun σ H Q q => by
    obtain ⟨F, ρ, r, ρ', s, eg, k⟩ := q
    rcases xb_some eg with ⟨d, ρ1, e1, eg1⟩ | ⟨x, e1, rfl⟩
    · refine ⟨F, ρ, _, ρ1, s, e1, fun F1 H1 p1 s1 v r1 => ?_⟩
      rcases xb_some eg1 with ⟨ds, ρ2, e2, eg2⟩ | ⟨x, e2, rfl⟩
      · obtain ⟨_, e3, rfl, rfl⟩ := xp_some eg2
        cases e3
        exact ⟨F1, ρ1, _, _, s1, e2, fun F2 H2 p2 s2 vs r2 => k F2 H2 (p1.trans p2) s2 (v :: vs) (.cons (dp_mono p2.ff _ _ r1) r2)⟩
      · exact ⟨F1, ρ1, _, _, s1, e2, fun F2 H2 p2 s2 => k F2 H2 (p1.trans p2) s2⟩
    · exact ⟨F, ρ, _, _, s, e1, fun F1 H1 p1 s1 => k F1 H1 p1 s1⟩
/-- the promise of a def that may raise -/
def spX (K : Kx) (mg : Str → Option Value) (n : Nat) (f : List D → Option (D ⊕ Xc)) : Sp := fun vs H Q E => vs.length = n ∧ ∃ (F : Hp) (ds : List D) (r : D ⊕ Xc), Same F H ∧ RpAll K F vs ds ∧ f ds = some r ∧
  ∀ F' H', Grow F H F' H' → match r with
    | .inl d => ∀ v, Rp K F' v d → Q v H'
    | .inr x => ∀ (C dd : Addr), mg x.c = some (.ref C) → H' dd = some (xdM x.m) → E (.ref C) (some dd) H'
def xCall (f : List D → Option (D ⊕ Xc)) (gs : Mx (List D)) : Mx D := xBind gs fun ds => xLift (f ds)
def xApp (f : List D → Option D) (gs : Mx (List D)) : Mx D := xBind gs fun ds => xPure (f ds)
theorem ex_call {k n : Nat} {f : Addr} {fd : FuncData} {ps : List Str} {g : List D → Option (D ⊕ Xc)} {gs : Mx (List D)} (tk : Takes X W) (G : FnOk X.prog X.w X.K X.mg X.base (L2.CX X.prog X.w) k f fd ps (spX (cxK X) X.mg n g)) (hr : Room k X.A) (hg : Gl X x) (hm : X.mg x = some (.ref f)) (hk : PySem.W.keepIn X.K (.ref f) = true) (hb : Binds X.K fd ps [])
    (ha : AX X W (e :: es) gs) (hlen : ∀ ρ ds ρ', gs ρ = some (.inl ds, ρ') → ds.length = n)
    (hdb : (x == ("__debug__" : Str)) = false := by decide) (he : starEach (e :: es) X.env = (false, eval e X.env) :: starEach es X.env := by rfl) (hpl : (backTo pos (starEach es X.env)).any (·.1) = false := by rfl) : EX X W (.Call (.Name x p) (e :: es) [] pos) (xCall g gs) :=
  pe_imp (pe_callS (E := WE W) G hr hg hm hk hb (fun σ => passAt tk σ) ha hdb he hpl) fun σ H Q q => by
    obtain ⟨F, ρ, r, ρ', s, eg, k⟩ := q
    rcases xb_some eg with ⟨ds, ρ1, e1, eg1⟩ | ⟨x, e1, rfl⟩
    · obtain ⟨e2, rfl⟩ := xl_some eg1
      refine ⟨F, ρ, _, _, s, e1, fun F1 H1 p1 s1 vs r1 => ⟨by rw [da_len r1]; exact hlen _ _ _ e1, F1, ds, r, s1.sub, r1, e2, fun F3 H3 gr => ?_⟩⟩
      have z := k F3 H3 (p1.trans (gr.stp σ _)) (s1.grow gr)
      cases r with
      | inl d => exact z
      | inr x => exact z
    · exact ⟨F, ρ, _, _, s, e1, fun F1 H1 p1 s1 => k F1 H1 p1 s1⟩
/-- a call of a def that raises nothing, its arguments may -/
theorem ex_callV {k n : Nat} {f : Addr} {fd : FuncData} {ps : List Str} {g : List D → Option D} {gs : Mx (List D)} (G : FnOk X.prog X.w X.K X.mg X.base CX0 k f fd ps (spV (cxK X) n g)) (hr : Room k X.A) (hg : Gl X x) (hm : X.mg x = some (.ref f)) (hk : PySem.W.keepIn X.K (.ref f) = true) (hb : Binds X.K fd ps []) (ha : AX X W (e :: es) gs) (hlen : ∀ ρ ds ρ', gs ρ = some (.inl ds, ρ') → ds.length = n)
    (hdb : (x == ("__debug__" : Str)) = false := by decide) (he : starEach (e :: es) X.env = (false, eval e X.env) :: starEach es X.env := by rfl) (hpl : (backTo pos (starEach es X.env)).any (·.1) = false := by rfl) : EX X W (.Call (.Name x p) (e :: es) [] pos) (xApp g gs) :=
  pe_imp (pe_call G hr hg hm hk hb .nil pass0 ha hdb he hpl) fun σ H Q q => by
    obtain ⟨F, ρ, r, ρ', s, eg, k⟩ := q
    rcases xb_some eg with ⟨ds, ρ1, e1, eg1⟩ | ⟨x, e1, rfl⟩
    · obtain ⟨d, e2, rfl, rfl⟩ := xp_some eg1
      exact ⟨F, ρ, _, _, s, e1, fun F1 H1 p1 s1 vs r1 => ⟨by rw [List.append_nil, da_len r1]; exact hlen _ _ _ e1, F1, ds, d, s1.sub, by rw [List.append_nil]; exact r1, e2, fun w F3 H3 gr rw' => k F3 H3 (p1.trans (gr.stp σ _)) (s1.grow gr) w rw'⟩⟩
    · exact ⟨F, ρ, _, _, s, e1, fun F1 H1 p1 s1 => k F1 H1 p1 s1⟩
theorem xlen_nil : ∀ ρ ds ρ', xOk gNil ρ = some (.inl ds, ρ') → ds.length = 0 := fun ρ ds ρ' h => by
  obtain ⟨d, e, e2⟩ := ok_some h
  cases e
  cases e2
  rfl
theorem xlen_ok {gs : Md (List D)} {n : Nat} (h : ∀ ρ ds ρ', gs ρ = some (ds, ρ') → ds.length = n) : ∀ ρ ds ρ', xOk gs ρ = some (.inl ds, ρ') → ds.length = n := fun ρ ds ρ' h2 => by
  obtain ⟨d, e, e2⟩ := ok_some h2
  cases e
  exact h _ _ _ e2
theorem xlen_cons {g : Mx D} {gs : Mx (List D)} {n : Nat} (h : ∀ ρ ds ρ', gs ρ = some (.inl ds, ρ') → ds.length = n) : ∀ ρ ds ρ', xCons g gs ρ = some (.inl ds, ρ') → ds.length = n + 1 := fun ρ ds ρ' e => by
  rcases xb_some e with ⟨d, ρ1, e1, eg1⟩ | ⟨x, e1, z⟩
  · rcases xb_some eg1 with ⟨ds2, ρ2, e2, eg2⟩ | ⟨x, e2, z⟩
    · obtain ⟨_, e3, e4, _⟩ := xp_some eg2
      cases e3
      cases e4
      rw [List.length_cons, h _ _ _ e2]
    · cases z
  · cases z
theorem ex_tup {gs : Mx (List D)} {k : Nat} (h : AX X W es gs) : EX X W (.Tuple es k pos) (xApp mkTup gs) :=
  pe_imp (pe_tup h) fun σ H Q q => by
    obtain ⟨F, ρ, r, ρ', s, eg, k⟩ := q
    rcases xb_some eg with ⟨ds, ρ1, e1, eg1⟩ | ⟨x, e1, rfl⟩
    · obtain ⟨d, e2, rfl, rfl⟩ := xp_some eg1
      unfold mkTup at e2
      split at e2
      · rename_i hl
        cases e2
        refine ⟨F, ρ, _, _, s, e1, fun F1 H1 p1 s1 vs r1 => ⟨by rw [line_eq, da_len r1]; exact hl, fun p hp => ?_⟩⟩
        have gr : Grow F1 H1 (upd F1 p (.tup vs)) (upd H1 p (.tup vs)) := Grow.val s1.sub hp
        exact k _ _ (p1.trans (gr.stp σ _)) (s1.grow gr) _ (.tup (.inl (.inl upd_same)) (dpAll_mono gr.ff _ _ r1))
      · cases e2
    · exact ⟨F, ρ, _, _, s, e1, fun F1 H1 p1 s1 => k F1 H1 p1 s1⟩
def xBin (f : D → D → Option D) (ga gb : Mx D) : Mx D := xBind ga fun x => xBind gb fun y => xPure (f x y)
theorem xbin_q {r : R2} {f : D → D → Option D} {ga gb : Mx D} (hr : r = rP2 (cxK X) f) {σ : L2.St} {H : Hp} {Q : VK} (q : tX (cxK X) X.mg W (xBin f ga gb) σ H Q) : tOp r (tX (cxK X) X.mg W ga) (tX (cxK X) X.mg W gb) σ H Q := by
  subst hr
  obtain ⟨F, ρ, r, ρ', s, eg, k⟩ := q
  rcases xb_some eg with ⟨d, ρ1, e1, eg1⟩ | ⟨x, e1, rfl⟩
  · refine ⟨F, ρ, _, ρ1, s, e1, fun F1 H1 p1 s1 v r1 => ?_⟩
    rcases xb_some eg1 with ⟨d2, ρ2, e2, eg2⟩ | ⟨x, e2, rfl⟩
    · obtain ⟨z, e3, rfl, rfl⟩ := xp_some eg2
      exact ⟨F1, ρ1, _, _, s1, e2, fun F2 H2 p2 s2 v2 r2 => ⟨F2, d, d2, z, s2.sub, dp_mono p2.ff _ _ r1, r2, e3, fun w F3 H3 gr rw' => k F3 H3 (p1.trans (p2.trans (gr.stp σ _))) (s2.grow gr) w rw'⟩⟩
    · exact ⟨F1, ρ1, _, _, s1, e2, fun F2 H2 p2 s2 => k F2 H2 (p1.trans p2) s2⟩
  · exact ⟨F, ρ, _, _, s, e1, fun F1 H1 p1 s1 => k F1 H1 p1 s1⟩
def xTst (g : Mx D) : Mx Bool := xBind g fun d => xPure (bOf d)
theorem xtst_q {g : Mx D} {σ : L2.St} {H : Hp} {Q : Bool → Hp → Prop} (q : tXT (cxK X) X.mg W (xTst g) σ H Q) : tX (cxK X) X.mg W g σ H (fun x H1 => ∃ k, x = .bl k ∧ Q k H1) := by
  obtain ⟨F, ρ, r, ρ', s, eg, k⟩ := q
  rcases xb_some eg with ⟨d, ρ1, e1, eg1⟩ | ⟨x, e1, rfl⟩
  · obtain ⟨z, e3, rfl, rfl⟩ := xp_some eg1
    have e := bOf_some e3
    subst e
    exact ⟨F, ρ, _, _, s, e1, fun F1 H1 p1 s1 v rv => ⟨z, dp_bl rv, k F1 H1 p1 s1⟩⟩
  · exact ⟨F, ρ, _, _, s, e1, fun F1 H1 p1 s1 => k F1 H1 p1 s1⟩
theorem tx_cmp {op : CmpOp} {f : D → D → Option D} {ga gb : Mx D} (ho : OpR X (compareOp op) (rP2 (cxK X) f)) (ha : EX X W a ga) (hb : EX X W b gb) (hm : behindInMarks op b = false) : TX X W (.Compare a [op] [b] pos) (xTst (xBin f ga gb)) :=
  pt_imp (pt_cmpR ho ha hb hm) fun σ H Q q => xbin_q rfl (xtst_q q)
theorem tx_val {g : Mx D} (h : EX X W e g) (he : ∀ whole, isTrue e X.env whole = (do let v ← whole; standAt e.pos; holding [v] (truthy v)) := by intro _; rfl) : TX X W e (xTst g) :=
  pt_imp (pt_val h he) fun σ H Q q => xtst_q q
def xNot (g : Mx Bool) : Mx Bool := xBind g fun b => xPure (some !b)
theorem tx_not {ga : Mx Bool} (ha : TX X W a ga) : TX X W (.UnaryOp .Not a pos) (xNot ga) :=
  pt_imp (pt_not ha) fun σ H Q q => by
    obtain ⟨F, ρ, r, ρ', s, eg, k⟩ := q
    rcases xb_some eg with ⟨d, ρ1, e1, eg1⟩ | ⟨x, e1, rfl⟩
    · obtain ⟨z, e3, rfl, rfl⟩ := xp_some eg1
      cases e3
      exact ⟨F, ρ, _, _, s, e1, fun F1 H1 p1 s1 => k F1 H1 p1 s1⟩
    · exact ⟨F, ρ, _, _, s, e1, fun F1 H1 p1 s1 => k F1 H1 p1 s1⟩
def xSeq (s t : Sx) : Sx := fun ρ => (s ρ).bind fun p => match p.1 with
  | .inl .nx => t p.2
  | r => some (r, p.2)
theorem sxs_nil : SXs X W [] (xOk sNext) := sxs_ok dss_nil
theorem sxs_cons {g h : Sx} (h1 : SX X W st g) (h2 : SXs X W sts h) : SXs X W (st :: sts) (xSeq g h) := pss_imp (pss_cons h1 h2) fun E σ H q => by
  obtain ⟨F, ρ, r, ρ', s, eg, k⟩ := q
  obtain ⟨⟨f1, ρ1⟩, e1, eg1⟩ := bind_some eg
  refine ⟨F, ρ, f1, ρ1, s, e1, fun σ1 F1 H1 p1 s1 => ?_⟩
  cases f1 with
  | inr x =>
    cases eg1
    exact k σ1 F1 H1 p1 s1
  | inl f1 =>
    cases f1 with
    | nx =>
      refine ⟨F1, ρ1, r, ρ', s1, eg1, fun σ2 F2 H2 p2 s2 => ?_⟩
      have z := k σ2 F2 H2 (p1.trans p2) s2
      cases r with
      | inl f => exact fl_base z fun a n => p1.none n
      | inr x => exact z
    | ret d =>
      cases eg1
      exact k σ1 F1 H1 p1 s1
    | rof d =>
      cases eg1
      exact k σ1 F1 H1 p1 s1
    | brk =>
      cases eg1
      exact k σ1 F1 H1 p1 s1
    | cnt =>
      cases eg1
      exact k σ1 F1 H1 p1 s1
theorem sxs_one {g : Sx} (h1 : SX X W st g) : SXs X W [st] g := pss_one h1
def xIf (g : Mx Bool) (s t : Sx) : Sx := xBind g fun b => if b = true then s else t
theorem sx_if {g : Mx Bool} {s1 s2 : Sx} {as bs : List Stmt} (hc : TX X W c g) (ha : SXs X W as s1) (hb : SXs X W bs s2) : SX X W (.If c as bs pos) (xIf g s1 s2) := ps_imp (ps_if hc ha hb) fun E σ H q => by
  obtain ⟨F, ρ, r, ρ', s, eg, k⟩ := q
  rcases xb_some eg with ⟨b, ρ1, e1, eg1⟩ | ⟨x, e1, rfl⟩
  · refine ⟨F, ρ, _, ρ1, s, e1, fun F1 H1 p1 s1 => ?_⟩
    have fin : ∀ {g2 : Sx}, g2 ρ1 = some (r, ρ') → tXS (cxK X) X.mg W g2 E σ H1 := fun {g2} e2 => ⟨F1, ρ1, r, ρ', s1, e2, fun σ2 F2 H2 p2 s2 => by
      have z := k σ2 F2 H2 (p1.trans p2) s2
      cases r with
      | inl f => exact fl_base z fun a n => p1.none n
      | inr x => exact z⟩
    cases b with
    | true => exact fin eg1
    | false => exact fin eg1
  · exact ⟨F, ρ, _, _, s, e1, fun F1 H1 p1 s1 => k σ F1 H1 p1 s1⟩
def xRet (g : Mx D) : Sx := xBind g fun d => xPure (some (.ret d))
theorem sx_ret {g : Mx D} (h : EX X W e g) : SX X W (.Return (some e) pos) (xRet g) := ps_imp (ps_ret h) fun E σ H q => by
  obtain ⟨F, ρ, r, ρ', s, eg, k⟩ := q
  rcases xb_some eg with ⟨d, ρ1, e1, eg1⟩ | ⟨x, e1, rfl⟩
  · obtain ⟨z, e3, rfl, rfl⟩ := xp_some eg1
    cases e3
    exact ⟨F, ρ, _, _, s, e1, fun F1 H1 p1 s1 v rv => k σ F1 H1 p1 s1 v rv⟩
  · exact ⟨F, ρ, _, _, s, e1, fun F1 H1 p1 s1 => k σ F1 H1 p1 s1⟩
end
end Dn
set_option maxHeartbeats 2000000
namespace Dn
open PySem PySem.Spec PyProof.Rows L2
section
variable {X : Cx} {W : WX} {e a b c tg iter : Expr} {es : List Expr} {pos p : Pos} {x : Str} {st : Stmt} {sts : List Stmt}
def xDrop (g : Mx D) : Sx := xBind g fun _ => xPure (some .nx)
theorem sx_expr {g : Mx D} (h : EX X W e g) (hs : swapsWith e none pos.line X.env = pure false := by rfl) : SX X W (.Expr e pos) (xDrop g) := ps_imp (ps_expr h hs) fun E σ H q => by
  obtain ⟨F, ρ, r, ρ', s, eg, k⟩ := q
  rcases xb_some eg with ⟨d, ρ1, e1, eg1⟩ | ⟨x, e1, rfl⟩
  · obtain ⟨z, e3, rfl, rfl⟩ := xp_some eg1
    cases e3
    exact ⟨F, ρ, _, _, s, e1, fun F1 H1 p1 s1 v rv => k σ F1 H1 p1 s1⟩
  · exact ⟨F, ρ, _, _, s, e1, fun F1 H1 p1 s1 => k σ F1 H1 p1 s1⟩
def xSet (i : Nat) (g : Mx D) : Sx := xBind g fun d ρ => (setC i (.val d) ρ).bind fun r => some (.inl .nx, r)
theorem sx_set {i : Nat} {pos' : Pos} {g : Mx D} (hN : X.N.Nodup) (hi : X.N[i]? = some x) (hx : Loc X.env.scope x) (he : EX X W e g) (hs : swapsWith e (some (.Name x pos')) pos.line X.env = pure false := by rfl) (hf : X.fn x = true ∨ X.env.scope.names.lookup x = some .local := by first | exact .inl rfl | exact .inr rfl | assumption) : SX X W (.Assign [.Name x pos'] e pos) (xSet i g) :=
  ps_imp (ps_set hN hi hx he hs hf) fun E σ H q => by
    obtain ⟨F, ρ, r, ρ', s, eg, k⟩ := q
    rcases xb_some eg with ⟨d, ρ1, e1, eg1⟩ | ⟨x, e1, rfl⟩
    · obtain ⟨r1, e2, eg2⟩ := bind_some eg1
      cases eg2
      exact ⟨F, ρ, _, ρ1, s, e1, fun F1 H1 p1 s1 v rv => k _ F1 H1 (stp_set p1 e2 fun _ _ _ z => nomatch z) (st_set s1 e2 ⟨v, rfl, rv⟩ fun _ _ _ z => nomatch z)⟩
    · exact ⟨F, ρ, _, _, s, e1, fun F1 H1 p1 s1 => k σ F1 H1 p1 s1⟩
def ownL : Option (Option Cell) → Option (Bool × List D)
  | some (some (.own b (.list ds))) => some (b, ds)
  | _ => none
theorem ownL_own {b : Bool} {ds : List D} : ownL (some (some (.own b (.list ds)))) = some (b, ds) := rfl
theorem ownL_some {o : Option (Option Cell)} {p : Bool × List D} (h : ownL o = some p) : o = some (some (.own p.1 (.list p.2))) := by
  unfold ownL at h
  split at h
  · cases h
    rfl
  · cases h
def xApd (i : Nat) (g : Mx D) : Sx := fun ρ => (ownL ρ[i]?).bind fun _ => xBind g (fun d ρ1 => (ownL ρ1[i]?).bind fun p => if p.2.length < 16777216 then some (.inl .nx, ρ1.set i (some (.own p.1 (.list (p.2 ++ [d]))))) else none) ρ
theorem sx_app (i : Nat) {ce : Expr} {g : Mx D} (he : PE X ce (tBM (cxK X) "list" rAppend (tVar i) (tCons (tX (cxK X) X.mg W g) tNil))) (hs : swapsWith ce none pos.line X.env = pure false := by rfl) : SX X W (.Expr ce pos) (xApd i g) :=
  ps_imp (ps_expr he hs) fun E σ H q => by
    obtain ⟨F, ρ, r, ρ', s, eg, k⟩ := q
    obtain ⟨p0, h0, eg⟩ := bind_some eg
    have h0 := ownL_some h0
    obtain ⟨a, ea, o0, _⟩ := st_owned s h0
    obtain ⟨_, xs0, hx0, _⟩ := own_lst o0
    rcases xb_some eg with ⟨d, ρ1, e1, eg1⟩ | ⟨x, e1, rfl⟩
    · obtain ⟨⟨b1, ds⟩, h1, eg1⟩ := bind_some eg1
      have h1 := ownL_some h1
      split at eg1
      · rename_i hl
        cases eg1
        refine ⟨.ref a, ea, .inl ⟨rfl, xs0, SqL.of hx0⟩, F, ρ, _, ρ1, s, e1, fun F1 H1 p1 s1 v r1 => ?_⟩
        obtain ⟨a1, ea1, o1, _⟩ := st_owned s1 h1
        rw [ea] at ea1
        cases ea1
        obtain ⟨f1, xs, hx, rx⟩ := own_lst o1
        refine ⟨a, xs, v, rfl, rfl, hx, by rw [line_eq, da_len rx]; exact hl, ?_⟩
        obtain ⟨o2, sh, kp⟩ := own_write s1.sub f1 hx (da_app rx (.cons r1 .nil))
        obtain ⟨s2, p2⟩ := st_own_set s1 h1 ea (Same.refl _) sh kp o2
        exact k σ F1 _ (p1.trans p2) s2
      · cases eg1
    · exact ⟨.ref a, ea, .inl ⟨rfl, xs0, SqL.of hx0⟩, F, ρ, _, _, s, e1, fun F1 H1 p1 s1 => k σ F1 H1 p1 s1⟩
/-- raise n(e) -/
def xRaise (n : Str) (g : Md D) : Sx := fun ρ => (g ρ).bind fun p => match p.1 with
  | .str m => some (.inr ⟨n, m⟩, p.2)
  | _ => none
theorem sx_raise {n : Str} {C Tc fI : Addr} {g : Md D} {k : Nat} {pos2 : Pos} (hc : X.calm = true) (T : Tw.TdTxt X.prog X.K X.mg n C Tc fI) (hr : Room k X.A) (tk : Takes X W) (ha : DE X a g) (hg : Gl X n) (hdb : (n == ("__debug__" : Str)) = false := by decide)
    (he : starEach (a :: []) X.env = (false, eval a X.env) :: starEach [] X.env := by rfl) (hpl : (backTo pos (starEach [] X.env)).any (·.1) = false := by rfl) : SX X W (.Raise (some (.Call (.Name n p) [a] [] pos)) none pos2) (xRaise n g) :=
  ps_imp (ps_raise hc tk (pmk_td T hr (pa_cons ha pa_nil (by exact he)) hg hdb he hpl)) fun E σ H q => by
    obtain ⟨F, ρ, r, ρ', s, eg, k⟩ := q
    obtain ⟨⟨d, ρ1⟩, e1, eg1⟩ := bind_some eg
    cases d with
    | str m =>
      cases eg1
      refine ⟨F, ρ, _, _, s, e1, fun v F1 H1 p1 s1 r1 => ⟨v, rfl, fun dd hdd => ?_⟩⟩
      cases r1
      have gr : Grow F1 H1 F1 (upd H1 dd (xdM m)) := Grow.own s1.sub hdd
      -- the wish is told of this very object
      refine k σ F1 _ (p1.trans (gr.stp σ _)) (s1.grow gr) C dd T.gC upd_same
    | none => cases eg1
    | bool _ => cases eg1
    | int _ => cases eg1
    | list _ => cases eg1
    | tuple _ => cases eg1
    | dict _ => cases eg1
def forX (tg : D → Env → Option Env) (body : Sx) : List D → Sx
  | [] => fun ρ => some (.inl .nx, ρ)
  | d :: ds => fun ρ => (tg d ρ).bind fun ρ1 => (body ρ1).bind fun p => match p.1 with
    | .inl .nx => forX tg body ds p.2
    | .inl .cnt => forX tg body ds p.2
    | .inl .brk => some (.inl .nx, p.2)
    | .inl (.ret r) => some (.inl (.ret r), p.2)
    | .inl (.rof r) => some (.inl (.rof r), p.2)
    | .inr x => some (.inr x, p.2)
def xFor (gi : Md (List D)) (tg : D → Env → Option Env) (body : Sx) : Sx := fun ρ => (gi ρ).bind fun p => forX tg body p.1 p.2
theorem sx_for {gi : Md (List D)} {gt : D → Env → Option Env} {gb : Sx} {body : List Stmt} (hp : PassesOwn (model X.prog X.w) X.A X.env X.xe) (hc : X.calm = true) (hi : DI X tg iter gi) {is : List Nat} (hg : DG X tg is gt) (hb : SXs X W body gb) (hs : ∀ x, foldedSetIterable iter X.env x = pure x := by intro _; rfl) : SX X W (.For tg iter body [] pos) (xFor gi gt gb) :=
  ps_imp (ps_for hp hc hi hg hb hs) fun E σ H q => by
    obtain ⟨F, ρ, f, ρ', s, eg, k⟩ := q
    obtain ⟨⟨ds, ρ1⟩, e1, eg1⟩ := bind_some eg
    refine ⟨F, ρ, ds, ρ1, s, e1, fun J F1 H1 p1 s1 ok => ?_⟩
    refine ⟨fun i m σi Hi => ∃ Fi ρi, m = ds.length - i ∧ i ≤ ds.length ∧ Stp F σ ρ H Fi σi ρi Hi ∧ St (cxK X) Fi Hi σi ρi ∧ Same F1 Fi ∧ forX gt gb (ds.drop i) ρi = some (f, ρ'), ⟨ds.length, F1, ρ1, by simp, Nat.zero_le _, p1, s1, Same.refl _, by simpa using eg1⟩, ?_⟩
    rintro i m σi Hi ⟨Fi, ρi, rfl, hi, pi, si, sf, ei⟩
    by_cases hlt : i < ds.length
    · have hd : ds[i]? = some ds[i] := List.getElem?_eq_getElem hlt
      obtain ⟨ok1, _⟩ := ok Fi Hi sf si.sub i
      obtain ⟨go, yl⟩ := ok1 _ hd
      rw [drop_cons hd] at ei
      obtain ⟨ρ2, e2, ei1⟩ := bind_some ei
      obtain ⟨⟨f3, ρ3⟩, e3, ei2⟩ := bind_some ei1
      refine .inr ⟨go, fun σ' H' => ∃ F' ρ'', Stp F σ ρ H F' σ' ρ'' H' ∧ St (cxK X) F' H' σ' ρ'' ∧ Same F1 F' ∧ forX gt gb (ds.drop (i + 1)) ρ'' = some (f, ρ'), fun σ' H' ⟨F', ρ'', h1, h2, h3, h4⟩ => ⟨ds.length - (i + 1), by omega, F', ρ'', rfl, hlt, h1, h2, h3, h4⟩, fun v H' hy => ?_⟩
      obtain ⟨F', gr, rv⟩ := yl v H' hy
      have p' := pi.trans (gr.stp σi ρi)
      refine ⟨F', ρi, _, ρ2, si.grow gr, rv, e2, fun σ2 F2 H2 p2 s2 _ => ⟨F2, ρ2, f3, ρ3, s2, e3, fun σ3 F3 H3 p3 s3 => ?_⟩⟩
      have pp := p'.trans (p2.trans p3)
      have sff := sf.trans (gr.ff.trans (p2.ff.trans p3.ff))
      cases f3 with
      | inr x =>
        cases ei2
        exact k σ3 F3 H3 pp s3
      | inl f3 =>
        cases f3 with
        | nx => exact ⟨F3, ρ3, pp, s3, sff, ei2⟩
        | cnt => exact ⟨F3, ρ3, pp, s3, sff, ei2⟩
        | brk =>
          cases ei2
          exact k σ3 F3 H3 pp s3
        | ret r =>
          cases ei2
          exact k σ3 F3 H3 pp s3
        | rof r =>
          cases ei2
          exact fl_base (k σ3 F3 H3 pp s3) fun _ n => p'.none (p2.none n)
    · have hl : i = ds.length := by omega
      obtain ⟨_, st⟩ := ok Fi Hi sf si.sub i
      rw [List.drop_of_length_le (by omega)] at ei
      cases ei
      exact .inl ⟨st (by omega), k σi Fi Hi pi si⟩
end
def endX : (Fl ⊕ Xc) × Env → Option (D ⊕ Xc)
  | (.inl .nx, _) => some (.inl .none)
  | (.inl (.ret d), _) => some (.inl d)
  | (.inr x, _) => some (.inr x)
  | _ => none
def runX (N : Nat) (g : Sx) (ds : List D) : Option (D ⊕ Xc) := (g (envV N ds)).bind endX
section
variable {P : Program} {w : World} {K : PySem.W.Frag} {mg : Str → Option Value} {base : Heap}
theorem fn_X {x qual : Str} {st : Stmt} {f : Addr} {fd : FuncData} {N ps : List Str} {k : Nat} {g : Sx} (Fn : Fun K x qual st f fd) (S : FnScope N ps (defScope st))
    (hbody : ∀ (cdv : Value) (A : Around) (outer : List PySem.Env) (s : Shared) (H : Hp) (E : XK), Room k (A.deeper (envOfC qual (defScope st) s.heap.objs.size f cdv)) → SXs (cxOf (L2.CX P w) P w K mg base N qual (defScope st) f cdv A outer s H E) (fun cls d _ H => E cls d H) (defBody st) g) :
    FnOk P w K mg base (L2.CX P w) (k + 1) f fd ps (spX ⟨K, P, w⟩ mg ps.length (runX N.length g)) := by
  refine Fn.okX S (fun vs H Q E h => h.1) fun cdv A outer s H vs Q E hr h => ⟨_, hbody cdv A outer s H E hr, ?_⟩
  obtain ⟨_, F, ds, r, sf, hd, ef, k⟩ := h
  obtain ⟨⟨fl, ρ'⟩, e1, e2⟩ := bind_some ef
  refine ⟨F, envV N.length ds, fl, ρ', st_vals sf hd, e1, fun σ' F' H' p s' => ?_⟩
  have gr := stp_grow p s'
  cases fl with
  | inr x =>
    cases e2
    exact k F' H' gr
  | inl fl =>
    cases fl with
    | nx =>
      cases e2
      exact k F' H' gr .non .non
    | ret d =>
      cases e2
      exact fun v rv => k F' H' gr v rv
    | rof d => cases e2
    | brk => cases e2
    | cnt => cases e2
end
section
variable {X : Cx} {W : WX} {x n : Str} {c : Value} {i : Nat} {body suite : List Stmt} {b₀ : Stmt} {np pos pos' : Pos}
/-- a wish kept from an earlier heap -/
def xTry (h : Str → Option Bool) (gb : Sx) (gs : Xc → Sd) : Sx := fun ρ => (gb ρ).bind fun p => match p.1 with
  | .inl f => some (.inl f, p.2)
  | .inr x => (h x.c).bind fun b => if b = true then xOk (gs x) p.2 else some (.inr x, p.2)
/-- try: body / except x: suite -/
theorem sx_try {h : Str → Option Bool} {gb : Sx} {gs : Xc → Sd} (hs : X.stack = X.env :: X.outer) (hf : X.env.frame = some X.env.locals) (hc : Names X x c) (tk : Takes X W)
    (hh : ∀ (cn : Str) (C : Addr) (b : Bool), h cn = some b → X.mg cn = some (.ref C) → PySem.W.exmOne X.K (.ref C) c = some b)
    (hb : ∀ (W : WX) (pn : List (Addr × Obj)) (xe : Value → Shared → Prop), Takes (X.tr pn xe) W → PassesOwn (model X.prog X.w) X.A X.env xe → SXs (X.tr pn xe) W body gb)
    (hsu : ∀ (xc : Xc) (a : Addr) (oe : Obj) (cls : Value) (d : Option Addr) (pn : List (Addr × Obj)), h xc.c = some true → Zc cls d oe → (∃ vs, oe.data = .fields vs) → DSs (X.suite a ((a, oe) :: pn)) (b₀ :: suite) (gs xc)) :
    SX X W (.Try body [.ExceptHandler (some (.Name x np)) none (b₀ :: suite) pos'] [] [] pos) (xTry h gb gs) := by
  refine ps_imp (ps_try_only (tb := fun V => tXS (cxK X) X.mg V gb) (ts := fun a cls d E σ H => ∃ xc : Xc, h xc.c = some true ∧ tDS (cxK X) (gs xc) E σ H) (Wout := W) hs hf hc tk hb fun a oe cls d pn hz hv => ?_) fun E σ H q => ?_
  · refine ⟨fun pins s σ H D I q => ?_⟩
    obtain ⟨xc, e, q⟩ := q
    exact (hsu xc a oe cls d pn e hz hv).run pins s σ H D I q
  · obtain ⟨F, ρ, r, ρ', s, eg, k⟩ := q
    obtain ⟨⟨f, ρ1⟩, e1, eg1⟩ := bind_some eg
    refine ⟨F, ρ, f, ρ1, s, e1, fun σ1 F1 H1 p1 s1 => ?_⟩
    cases f with
    | inl f =>
      cases eg1
      exact k σ1 F1 H1 p1 s1
    | inr xc =>
      obtain ⟨b, e2, eg2⟩ := bind_some eg1
      intro C dd hC hd
      refine ⟨b, hh _ _ _ e2 hC, fun hb a na => ?_, fun hb => ?_⟩
      · subst hb
        have eg3 : xOk (gs xc) ρ1 = some (r, ρ') := eg2
        obtain ⟨f, rfl, e4⟩ := ok_some eg3
        exact ⟨xc, e2, F1, ρ1, f, ρ', s1, e4, fun σ2 F2 H2 p2 s2 => fl_base (k σ2 F2 H2 (p1.trans p2) s2) fun _ n => p1.none n⟩
      · subst hb
        have eg3 : some ((.inr xc : Fl ⊕ Xc), ρ1) = some (r, ρ') := eg2
        cases eg3
        exact k σ1 F1 H1 p1 s1 C dd hC hd
end
end Dn
set_option maxHeartbeats 2000000
namespace Dn
open PySem PySem.Spec PyProof.Rows L2
theorem xd_keep {K : Kx} {F H F' H' : Hp} {σ σ' : L2.St} {ρ ρ' : Env} {dd : Addr} {m : Str} (s : St K F H σ ρ) (p : Stp F σ ρ H F' σ' ρ' H') (hd : H dd = some (xdM m)) : H' dd = some (xdM m) := by
  refine (p.keep dd _ hd fun z => ?_).1
  obtain ⟨j, f, d, e1, e2⟩ := z
  obtain ⟨a, e3, o⟩ := s.cell j _ e1
  rw [e2] at e3
  cases e3
  rcases o.2 with ⟨xs, ds, _, h, _⟩ | ⟨xs, es, _, h, _⟩ | ⟨xs, es, _, h, _⟩
  · rw [hd] at h; cases h
  · rw [hd] at h; cases h
  · rw [hd] at h; cases h
section
variable (K : Kx) (i : Nat) (a dd : Addr) (m : Str)
def tM (g : Md D) : TE := fun σ H Q => σ[i]? = some (some (.ref a)) ∧ ∃ (F : Hp) (ρ : Env) (d : D) (ρ' : Env), St K F H σ ρ ∧ H dd = some (xdM m) ∧ g ρ = some (d, ρ') ∧
  ∀ v F' H', Stp F σ ρ H F' σ ρ' H' → St K F' H' σ ρ' → Rp K F' v d → Q v H'
def tMA (g : Md (List D)) : TA := fun σ H Q => σ[i]? = some (some (.ref a)) ∧ ∃ (F : Hp) (ρ : Env) (d : List D) (ρ' : Env), St K F H σ ρ ∧ H dd = some (xdM m) ∧ g ρ = some (d, ρ') ∧
  ∀ vs F' H', Stp F σ ρ H F' σ ρ' H' → St K F' H' σ ρ' → RpAll K F' vs d → Q vs H'
def tMS (g : Sd) : TS := fun E σ H => σ[i]? = some (some (.ref a)) ∧ ∃ (F : Hp) (ρ : Env) (f : Fl) (ρ' : Env), St K F H σ ρ ∧ H dd = some (xdM m) ∧ g ρ = some (f, ρ') ∧
  ∀ σ' F' H', Stp F σ ρ H F' σ' ρ' H' → St K F' H' σ' ρ' → FlOk K E H F' σ' H' f
end
abbrev ME (Y : Cx) (i : Nat) (a dd : Addr) (m : Str) (e : Expr) (g : Md D) : Prop := PE Y e (tM (cxK Y) i a dd m g)
abbrev MA (Y : Cx) (i : Nat) (a dd : Addr) (m : Str) (e : List Expr) (g : Md (List D)) : Prop := PA Y e (tMA (cxK Y) i a dd m g)
abbrev MS (Y : Cx) (i : Nat) (a dd : Addr) (m : Str) (e : Stmt) (g : Sd) : Prop := PS Y e (tMS (cxK Y) i a dd m g)
abbrev MSs (Y : Cx) (i : Nat) (a dd : Addr) (m : Str) (e : List Stmt) (g : Sd) : Prop := PSs Y e (tMS (cxK Y) i a dd m g)
section
variable {Y : Cx} {i : Nat} {a dd : Addr} {m : Str} {e e2 c : Expr} {es : List Expr} {pos p : Pos} {x : Str} {st : Stmt} {sts : List Stmt}
theorem me_ok {g : Md D} (h : DE Y e g) : ME Y i a dd m e g := pe_imp h fun σ H Q q => by
  obtain ⟨_, F, ρ, d, ρ', s, _, eg, k⟩ := q
  exact ⟨F, ρ, d, ρ', s, eg, k⟩
theorem ma_nl : MA Y i a dd m [] gNil := pa_imp da_nl fun σ H Q q => by
  obtain ⟨_, F, ρ, d, ρ', s, _, eg, k⟩ := q
  exact ⟨F, ρ, d, ρ', s, eg, k⟩
theorem ma_cs {g : Md D} {gs : Md (List D)} (ha : ME Y i a dd m e g) (hr : MA Y i a dd m es gs) (hs : starEach (e :: es) Y.env = (false, eval e Y.env) :: starEach es Y.env := by rfl) : MA Y i a dd m (e :: es) (gCons g gs) :=
  pa_imp (pa_cons ha hr hs) fun σ H Q q => by
    obtain ⟨hi, F, ρ, d, ρ', s, hx, eg, k⟩ := q
    obtain ⟨⟨x, ρ1⟩, e1, eg⟩ := bind_some eg
    obtain ⟨⟨y, ρ2⟩, e2, eg⟩ := bind_some eg
    cases eg
    exact ⟨hi, F, ρ, x, ρ1, s, hx, e1, fun v F1 H1 p1 s1 r1 => ⟨hi, F1, ρ1, y, _, s1, xd_keep s p1 hx, e2, fun u F2 H2 p2 s2 r2 => k (v :: u) F2 H2 (p1.trans p2) s2 (.cons (dp_mono p2.ff _ _ r1) r2)⟩⟩
theorem me_tup {gs : Md (List D)} {k : Nat} (h : MA Y i a dd m es gs) : ME Y i a dd m (.Tuple es k pos) (gApp mkTup gs) :=
  pe_imp (pe_tup h) fun σ H Q q => by
    obtain ⟨hi, F, ρ, d, ρ', s, hx, eg, k⟩ := q
    obtain ⟨⟨x, ρ1⟩, e1, eg⟩ := bind_some eg
    obtain ⟨z, e3, eg⟩ := bind_some eg
    cases eg
    unfold mkTup at e3
    split at e3
    · rename_i hl
      cases e3
      refine ⟨hi, F, ρ, x, ρ1, s, hx, e1, fun vs F1 H1 p1 s1 r1 => ⟨by rw [line_eq, da_len r1]; exact hl, fun p hp => ?_⟩⟩
      have gr : Grow F1 H1 (upd F1 p (.tup vs)) (upd H1 p (.tup vs)) := Grow.val s1.sub hp
      exact k _ _ _ (p1.trans (gr.stp σ ρ1)) (s1.grow gr) (.tup (.inl (.inl upd_same)) (dpAll_mono gr.ff _ _ r1))
    · cases e3
theorem ms_ret {g : Md D} (h : ME Y i a dd m e g) : MS Y i a dd m (.Return (some e) pos) (sRet g) := ps_imp (ps_ret h) fun E σ H q => by
  obtain ⟨hi, F, ρ, f, ρ', s, hx, eg, k⟩ := q
  obtain ⟨⟨d, ρ1⟩, e1, eg1⟩ := bind_some eg
  cases eg1
  exact ⟨hi, F, ρ, d, _, s, hx, e1, fun v F1 H1 p1 s1 r1 => k σ F1 H1 p1 s1 v r1⟩
theorem mss_one {g : Sd} (h1 : MS Y i a dd m st g) : MSs Y i a dd m [st] g := pss_one h1
end
section
variable {X : Cx} {i : Nat} {a dd C Tc fI : Addr} {m : Str} {oe : Obj} {pn : List (Addr × Obj)} {pos p p2 : Pos} {x y n : Str}
/-- e.message -/
theorem me_msg (T : Tw.TdTxt X.prog X.K X.mg n C Tc fI) (hz : Zc (.ref C) (some dd) oe) (hf : ∃ vs, oe.data = .fields vs) (hN : X.N[i]? = some y := by rfl) (hv : Vis X.env.scope y := by first | exact Or.inl rfl | exact Or.inr (Or.inl rfl) | exact Or.inr (Or.inr rfl)) (hd : (y == ("__debug__" : Str)) = false := by decide) (hcd : (y == ("__classdict__" : Str)) = false := by decide)
    (hb : attributeBase (.Name y p) "message" X.env (eval (.Name y p) X.env) = eval (.Name y p) X.env := by rfl) : ME (X.suite a ((a, oe) :: pn)) i a dd m (.Attribute (.Name y p) "message" pos) (gC (.str m)) :=
  pe_imp (pe_msg T hz hf (pe_var (X := X.suite a ((a, oe) :: pn)) (i := i) hN hv hd hcd) hb) fun σ H Q q => by
    obtain ⟨hi, F, ρ, d, ρ', s, hx, eg, k⟩ := q
    cases eg
    exact ⟨_, hi, rfl, .str m, hx, k _ F H Stp.refl s (.str m)⟩
def rIsM (K : PySem.W.Frag) (C a dd : Addr) : List V → Hp → VK → Prop := fun xs H Q => ∃ (c : V) (cv : Value) (b : Bool) (m : Str), xs = [.ref a, c] ∧ (∀ u, RelV c u → u = cv) ∧ H dd = some (xdM m) ∧ PySem.W.kitOne K (.ref C) cv = some b ∧ Q (.bl b) H
theorem call_isM (T : Tw.TdTxt X.prog X.K X.mg n C Tc fI) (hz : Zc (.ref C) (some dd) oe) (hf : ∃ vs, oe.data = .fields vs) : CallR (X.suite a ((a, oe) :: pn)) (.builtin "isinstance") (rIsM X.K C a dd) := by
  intro pins s σ H xs us Q I r h
  obtain ⟨c, cv, b, m, rfl, hcv, hx, e, q⟩ := h
  cases r with
  | cons rx rr =>
    cases rr with
    | cons rt rr =>
      cases rr
      cases rx
      have ec := hcv _ rt
      subst ec
      obtain ⟨hget, _⟩ := I.pin (a, oe) (List.mem_append.mpr (.inl List.mem_cons_self))
      obtain ⟨vs, hv⟩ := hf
      have hx' : ObjOk X.prog X.w H s.heap dd (xdM m) := I.hok dd _ hx
      obtain ⟨mA, hns, hr⟩ := hx'
      obtain ⟨od, ho, hl⟩ := lookIn_ns hns
      have J : PySem.W.InstAt s.heap a oe C (some od) := ⟨hget, hz.1, by unfold PySem.W.notCls; rw [hv] <;> rfl, by rw [hz.2]; exact ho⟩
      exact PySem.W.kia_one (PySem.W.kitx_exc T.isC T.ga T.gg T.exC T.caC T.caN T.caT T.caM) I.kIn J e (fun z => nomatch z) fun tk => ⟨.bl b, H, I.kept (t' := tk) fun _ _ z => z, rfl, q⟩
/-- isinstance(e, D), D a class of the program -/
theorem me_isM {Da : Addr} {b : Bool} {z : Str} {p3 : Pos} (T : Tw.TdTxt X.prog X.K X.mg n C Tc fI) (hz : Zc (.ref C) (some dd) oe) (hf : ∃ vs, oe.data = .fields vs) (hk : PySem.W.kitOne X.K (.ref C) (.ref Da) = some b) (hm : X.mg "isinstance" = none) (hgl : Gl X "isinstance") (hgz : Gl X z) (hmz : X.mg z = some (.ref Da))
    (hN : X.N[i]? = some y := by rfl) (hv : Vis X.env.scope y := by first | exact Or.inl rfl | exact Or.inr (Or.inl rfl) | exact Or.inr (Or.inr rfl)) (hd : (y == ("__debug__" : Str)) = false := by decide) (hcd : (y == ("__classdict__" : Str)) = false := by decide) (hdz : (z == ("__debug__" : Str)) = false := by decide)
    (he : starEach (.Name y p :: [.Name z p2]) X.env = (false, eval (.Name y p) X.env) :: starEach [.Name z p2] X.env := by rfl) (he2 : starEach ([.Name z p2]) X.env = (false, eval (.Name z p2) X.env) :: starEach [] X.env := by rfl) (hpl : (backTo pos (starEach [.Name z p2] X.env)).any (·.1) = false := by rfl) :
    ME (X.suite a ((a, oe) :: pn)) i a dd m (.Call (.Name "isinstance" p3) [.Name y p, .Name z p2] [] pos) (gC (.bool b)) :=
  pe_imp (pe_callB (X := X.suite a ((a, oe) :: pn)) (call_isM T hz hf) hgl hm (by decide +kernel) (pa_cons (pe_var (X := X.suite a ((a, oe) :: pn)) (i := i) hN hv hd hcd) (pa_cons (pe_glob (X := X.suite a ((a, oe) :: pn)) (v := .ref Da) hgz hmz rfl hdz) pa_nil he2) he) (by decide) (by decide) he hpl) fun σ H Q q => by
    obtain ⟨hi, F, ρ, d, ρ', s, hx, eg, k⟩ := q
    cases eg
    exact ⟨_, hi, .ref Da, .ref Da, b, m, rfl, fun u hu => hu, hx, hk, k _ F H Stp.refl s (.bl b)⟩
end
section
variable {X : Cx} {W : WX} {x n : Str} {c : Value} {i : Nat} {body suite : List Stmt} {b₀ : Stmt} {np pos pos' : Pos}
def clearS (i : Nat) (g : Sd) : Sd := fun ρ => if notOwn ρ i = true ∧ i < ρ.length then (g (ρ.set i none)).bind fun p => match p.1 with
  | .ret d => some (.ret d, p.2)
  | _ => none else none
theorem st_clear {K : Kx} {F H : Hp} {σ : L2.St} {ρ : Env} {v : Option V} (s : St K F H σ ρ) (ho : notOwn ρ i = true) : St K F H (σ.set i v) (ρ.set i none) where
  sub := s.sub
  len := by rw [List.length_set, List.length_set]; exact s.len
  cell := fun j cj hj => by
    by_cases z : j = i
    · subst z
      by_cases hl : j < ρ.length
      · rw [List.getElem?_set_self hl] at hj; cases hj
      · rw [List.getElem?_eq_none (by simpa using hl)] at hj; cases hj
    · rw [get_set_ne z] at hj ⊢
      exact s.cell j cj hj
  dist := fun j l f g dj dl b h1 h2 h3 h4 => by
    have z1 : j ≠ i := fun z => by
      subst z
      by_cases hl : j < ρ.length
      · rw [List.getElem?_set_self hl] at h1; cases h1
      · rw [List.getElem?_eq_none (by simpa using hl)] at h1; cases h1
    have z2 : l ≠ i := fun z => by
      subst z
      by_cases hl : l < ρ.length
      · rw [List.getElem?_set_self hl] at h2; cases h2
      · rw [List.getElem?_eq_none (by simpa using hl)] at h2; cases h2
    rw [get_set_ne z1] at h1 h3
    rw [get_set_ne z2] at h2 h4
    exact s.dist j l f g dj dl b h1 h2 h3 h4
theorem stp_clear {F0 F H0 H : Hp} {σ0 σ : L2.St} {ρ0 ρ : Env} {v : Option V} (p : Stp F0 σ0 ρ0 H0 F σ ρ H) (ho : notOwn ρ i = true) : Stp F0 σ0 ρ0 H0 F (σ.set i v) (ρ.set i none) H where
  ff := p.ff
  keep := p.keep
  fresh := fun b hb => by
    obtain ⟨j, f, d, h1, h2⟩ := hb
    have z : j ≠ i := fun z => by
      subst z
      by_cases hl : j < ρ.length
      · rw [List.getElem?_set_self hl] at h1; cases h1
      · rw [List.getElem?_eq_none (by simpa using hl)] at h1; cases h1
    rw [get_set_ne z] at h1 h2
    exact p.fresh b ⟨j, f, d, h1, h2⟩
  fix := fun j d hj => by
    obtain ⟨e1, d', e2⟩ := p.fix j d hj
    have z : j ≠ i := fun z => by
      subst z
      unfold notOwn at ho
      rw [e2] at ho
      cases ho
    rw [get_set_ne z, get_set_ne z]
    exact ⟨e1, d', e2⟩
  dom := p.dom
/-- try: body / except x as n: suite, the suite returning -/
def xTryA (i : Nat) (h : Str → Option Bool) (gb : Sx) (gs : Xc → Sd) : Sx := xTry h gb (fun x => clearS i (gs x))
theorem sx_tryA {h : Str → Option Bool} {gb : Sx} {gs : Xc → Sd} (hs : X.stack = X.env :: X.outer) (hf : X.env.frame = some X.env.locals) (hN : X.N.Nodup) (hi : X.N[i]? = some n) (hln : X.env.kindOf n = some .local) (hc : Names X x c) (tk : Takes X W)
    (hh : ∀ (cn : Str) (C : Addr) (b : Bool), h cn = some b → X.mg cn = some (.ref C) → PySem.W.exmOne X.K (.ref C) c = some b)
    (hb : ∀ (W : WX) (pn : List (Addr × Obj)) (xe : Value → Shared → Prop), Takes (X.tr pn xe) W → PassesOwn (model X.prog X.w) X.A X.env xe → SXs (X.tr pn xe) W body gb)
    (hsu : ∀ (xc : Xc) (C a dd : Addr) (oe : Obj) (pn : List (Addr × Obj)), h xc.c = some true → X.mg xc.c = some (.ref C) → Zc (.ref C) (some dd) oe → (∃ vs, oe.data = .fields vs) → MSs (X.suite a ((a, oe) :: pn)) i a dd xc.m (b₀ :: suite) (gs xc)) :
    SX X W (.Try body [.ExceptHandler (some (.Name x np)) (some n) (b₀ :: suite) pos'] [] [] pos) (xTryA i h gb gs) := by
  refine ps_imp (ps_try_as (tb := fun V => tXS (cxK X) X.mg V gb) (ts := fun a cls d E σ H => ∃ (xc : Xc) (C dd : Addr), h xc.c = some true ∧ X.mg xc.c = some (.ref C) ∧ cls = .ref C ∧ d = some dd ∧ tMS (cxK X) i a dd xc.m (gs xc) E σ H) (Wout := W) hs hf hN hi hln hc tk hb fun a oe cls d pn hz hv => ?_) fun E σ H q => ?_
  · refine ⟨fun pins s σ H D I q => ?_⟩
    obtain ⟨xc, C, dd, e, e2, rfl, rfl, q⟩ := q
    exact (hsu xc C a dd oe pn e e2 hz hv).run pins s σ H D I q
  · obtain ⟨F, ρ, r, ρ', s, eg, k⟩ := q
    obtain ⟨⟨f, ρ1⟩, e1, eg1⟩ := bind_some eg
    refine ⟨F, ρ, f, ρ1, s, e1, fun σ1 F1 H1 p1 s1 => ?_⟩
    cases f with
    | inl f =>
      cases eg1
      exact k σ1 F1 H1 p1 s1
    | inr xc =>
      obtain ⟨b, e2, eg2⟩ := bind_some eg1
      intro C dd hC hd
      refine ⟨b, hh _ _ _ e2 hC, fun hb a na => ?_, fun hb => ?_⟩
      · subst hb
        have eg3 : xOk (clearS i (gs xc)) ρ1 = some (r, ρ') := eg2
        obtain ⟨f, rfl, e4⟩ := ok_some eg3
        unfold clearS at e4
        split at e4
        · rename_i ho
          obtain ⟨⟨f5, ρ5⟩, e5, e6⟩ := bind_some e4
          have hl : i < σ1.length := by rw [← s1.len]; exact ho.2
          have s2 := st_clear (i := i) (v := some (.ref a)) s1 ho.1
          have p2 := stp_clear (i := i) (v := some (.ref a)) p1 ho.1
          refine ⟨xc, C, dd, e2, hC, rfl, rfl, List.getElem?_set_self hl, F1, ρ1.set i none, f5, ρ5, s2, hd, e5, fun σ3 F3 H3 p3 s3 => ?_⟩
          cases f5 with
          | ret d =>
            cases e6
            exact fun v rv => k σ3 F3 H3 (p2.trans p3) s3 v rv
          | nx => cases e6
          | rof d => cases e6
          | brk => cases e6
          | cnt => cases e6
        · cases e4
      · subst hb
        have eg3 : some ((.inr xc : Fl ⊕ Xc), ρ1) = some (r, ρ') := eg2
        cases eg3
        exact k σ1 F1 H1 p1 s1 C dd hC hd
/-- a def's body that may raise, where nothing of it leaves -/
def noX (g : Sx) : Sd := fun ρ => (g ρ).bind fun p => match p.1 with
  | .inl f => some (f, p.2)
  | .inr _ => none
theorem ds_noX {st : Stmt} {g : Sx} (h : SX X (fun _ _ _ _ => False) st g) : DS X st (noX g) := ps_imp h fun E σ H q => by
  obtain ⟨F, ρ, f, ρ', s, eg, k⟩ := q
  obtain ⟨⟨f1, ρ1⟩, e1, eg1⟩ := bind_some eg
  cases f1 with
  | inl f1 =>
    cases eg1
    exact ⟨F, ρ, _, _, s, e1, fun σ1 F1 H1 p1 s1 => k σ1 F1 H1 p1 s1⟩
  | inr x => cases eg1
end
end Dn
set_option maxHeartbeats 2000000
namespace Dn
open PySem PySem.Spec PyProof.Rows L2
def hL (l : List (Str × Bool × (Str → Sd))) (c : Str) : Option Bool := (l.lookup c).map (·.1)
def sNo : Sd := fun _ => none
def gL (l : List (Str × Bool × (Str → Sd))) (xc : Xc) : Sd := match l.lookup xc.c with
  | some p => p.2 xc.m
  | none => sNo
theorem takes0 {X : Cx} : Takes X (fun _ _ _ _ => False) := fun _ _ x => by
  obtain ⟨_, _, _, _, _, _, _, _, _, _, _, _, _, _, _, _, z⟩ := x
  exact z.elim
section
variable {X : Cx} {W : WX} {x n : Str} {c : Value} {i : Nat} {body suite : List Stmt} {b₀ : Stmt} {np pos pos' : Pos}
/-- except x as n -/
inductive HA (X : Cx) (i : Nat) (c : Value) (ss : List Stmt) : List (Str × Bool × (Str → Sd)) → Prop
  | nil : HA X i c ss []
  | no {n : Str} {C : Addr} {g : Str → Sd} {r : List (Str × Bool × (Str → Sd))} (gC : X.mg n = some (.ref C)) (ex : PySem.W.exmOne X.K (.ref C) c = some false) (h : HA X i c ss r) : HA X i c ss ((n, false, g) :: r)
  | yes {n : Str} {C : Addr} {g : Str → Sd} {r : List (Str × Bool × (Str → Sd))} (gC : X.mg n = some (.ref C)) (ex : PySem.W.exmOne X.K (.ref C) c = some true)
      (su : ∀ (m : Str) (a dd : Addr) (oe : Obj) (pn : List (Addr × Obj)), Zc (.ref C) (some dd) oe → (∃ vs, oe.data = .fields vs) → MSs (X.suite a ((a, oe) :: pn)) i a dd m ss (g m)) (h : HA X i c ss r) : HA X i c ss ((n, true, g) :: r)
theorem lookup_hd {β : Type} {k n : Str} {v : β} {l : List (Str × β)} : ((n, v) :: l).lookup k = if k = n then some v else l.lookup k := by
  by_cases h : k = n
  · subst h
    simp [List.lookup]
  · have e : (k == n) = false := by simpa using h
    rw [if_neg h]
    simp [List.lookup, e]
theorem HA.hh {ss : List Stmt} {l : List (Str × Bool × (Str → Sd))} (h : HA X i c ss l) (cn : Str) (C : Addr) (b : Bool) (e : hL l cn = some b) (hm : X.mg cn = some (.ref C)) : PySem.W.exmOne X.K (.ref C) c = some b := by
  induction h with
  | nil => cases e
  | @no n C' g r gC ex _ ih =>
    unfold hL at e
    rw [lookup_hd] at e
    by_cases q : cn = n
    · subst q
      rw [if_pos rfl] at e
      cases e
      rw [gC] at hm
      cases hm
      exact ex
    · rw [if_neg q] at e
      exact ih e
  | @yes n C' g r gC ex _ _ ih =>
    unfold hL at e
    rw [lookup_hd] at e
    by_cases q : cn = n
    · subst q
      rw [if_pos rfl] at e
      cases e
      rw [gC] at hm
      cases hm
      exact ex
    · rw [if_neg q] at e
      exact ih e
theorem HA.su {ss : List Stmt} {l : List (Str × Bool × (Str → Sd))} (h : HA X i c ss l) (xc : Xc) (C a dd : Addr) (oe : Obj) (pn : List (Addr × Obj)) (e : hL l xc.c = some true) (hm : X.mg xc.c = some (.ref C)) (hz : Zc (.ref C) (some dd) oe) (hf : ∃ vs, oe.data = .fields vs) : MSs (X.suite a ((a, oe) :: pn)) i a dd xc.m ss (gL l xc) := by
  induction h with
  | nil => cases e
  | @no n C' g r gC ex _ ih =>
    unfold hL at e
    unfold gL
    rw [lookup_hd] at e ⊢
    by_cases q : xc.c = n
    · rw [if_pos q] at e
      cases e
    · rw [if_neg q] at e ⊢
      exact ih e
  | @yes n C' g r gC ex su _ ih =>
    unfold hL at e
    unfold gL
    rw [lookup_hd] at e ⊢
    by_cases q : xc.c = n
    · rw [if_pos q]
      rw [q, gC] at hm
      cases hm
      exact su xc.m a dd oe pn hz hf
    · rw [if_neg q] at e ⊢
      exact ih e
theorem sx_tryL {l : List (Str × Bool × (Str → Sd))} {gb : Sx} (hs : X.stack = X.env :: X.outer) (hf : X.env.frame = some X.env.locals) (hN : X.N.Nodup) (hi : X.N[i]? = some n) (hln : X.env.kindOf n = some .local) (hc : Names X x c) (tk : Takes X W)
    (hb : ∀ (W : WX) (pn : List (Addr × Obj)) (xe : Value → Shared → Prop), Takes (X.tr pn xe) W → PassesOwn (model X.prog X.w) X.A X.env xe → SXs (X.tr pn xe) W body gb) (hl : HA X i c (b₀ :: suite) l) :
    SX X W (.Try body [.ExceptHandler (some (.Name x np)) (some n) (b₀ :: suite) pos'] [] [] pos) (xTryA i (hL l) gb (gL l)) :=
  sx_tryA hs hf hN hi hln hc tk hl.hh hb hl.su
/-- except x -/
inductive HB (X : Cx) (c : Value) (ss : List Stmt) : List (Str × Bool × (Str → Sd)) → Prop
  | nil : HB X c ss []
  | no {n : Str} {C : Addr} {g : Str → Sd} {r : List (Str × Bool × (Str → Sd))} (gC : X.mg n = some (.ref C)) (ex : PySem.W.exmOne X.K (.ref C) c = some false) (h : HB X c ss r) : HB X c ss ((n, false, g) :: r)
  | yes {n : Str} {C : Addr} {g : Str → Sd} {r : List (Str × Bool × (Str → Sd))} (gC : X.mg n = some (.ref C)) (ex : PySem.W.exmOne X.K (.ref C) c = some true)
      (su : ∀ (m : Str) (a : Addr) (oe : Obj) (pn : List (Addr × Obj)), DSs (X.suite a ((a, oe) :: pn)) ss (g m)) (h : HB X c ss r) : HB X c ss ((n, true, g) :: r)
theorem HB.hh {ss : List Stmt} {l : List (Str × Bool × (Str → Sd))} (h : HB X c ss l) (cn : Str) (C : Addr) (b : Bool) (e : hL l cn = some b) (hm : X.mg cn = some (.ref C)) : PySem.W.exmOne X.K (.ref C) c = some b := by
  induction h with
  | nil => cases e
  | @no n C' g r gC ex _ ih =>
    unfold hL at e
    rw [lookup_hd] at e
    by_cases q : cn = n
    · subst q
      rw [if_pos rfl] at e
      cases e
      rw [gC] at hm
      cases hm
      exact ex
    · rw [if_neg q] at e
      exact ih e
  | @yes n C' g r gC ex _ _ ih =>
    unfold hL at e
    rw [lookup_hd] at e
    by_cases q : cn = n
    · subst q
      rw [if_pos rfl] at e
      cases e
      rw [gC] at hm
      cases hm
      exact ex
    · rw [if_neg q] at e
      exact ih e
theorem HB.su {ss : List Stmt} {l : List (Str × Bool × (Str → Sd))} (h : HB X c ss l) (xc : Xc) (a : Addr) (oe : Obj) (pn : List (Addr × Obj)) (e : hL l xc.c = some true) : DSs (X.suite a ((a, oe) :: pn)) ss (gL l xc) := by
  induction h with
  | nil => cases e
  | @no n C' g r gC ex _ ih =>
    unfold hL at e
    unfold gL
    rw [lookup_hd] at e ⊢
    by_cases q : xc.c = n
    · rw [if_pos q] at e
      cases e
    · rw [if_neg q] at e ⊢
      exact ih e
  | @yes n C' g r gC ex su _ ih =>
    unfold hL at e
    unfold gL
    rw [lookup_hd] at e ⊢
    by_cases q : xc.c = n
    · rw [if_pos q]
      exact su xc.m a oe pn
    · rw [if_neg q] at e ⊢
      exact ih e
theorem sx_tryB {l : List (Str × Bool × (Str → Sd))} {gb : Sx} (hs : X.stack = X.env :: X.outer) (hf : X.env.frame = some X.env.locals) (hc : Names X x c) (tk : Takes X W)
    (hb : ∀ (W : WX) (pn : List (Addr × Obj)) (xe : Value → Shared → Prop), Takes (X.tr pn xe) W → PassesOwn (model X.prog X.w) X.A X.env xe → SXs (X.tr pn xe) W body gb) (hl : HB X c (b₀ :: suite) l) :
    SX X W (.Try body [.ExceptHandler (some (.Name x np)) none (b₀ :: suite) pos'] [] [] pos) (xTry (hL l) gb (gL l)) :=
  sx_try hs hf hc tk hl.hh hb fun xc a oe cls d pn e _ _ => hl.su xc a oe pn e
end
end Dn
set_option maxHeartbeats 2000000
namespace Dn
open PySem PySem.Spec PyProof.Rows L2
section
variable {M : Model} {A : Around} {E : Value → Shared → Prop} {s : Shared} {env : PySem.Env}
/-- behind a comprehension's block: what PyProof's compPost says, and the block's frame -/
def postF (M : Model) (A : Around) (E : Value → Shared → Prop) (use : Option (Value → Sem Unit)) (Q : Value → Shared → Prop) (acc : Value) (C : Addr) (fr : Option Addr) (r : Result) (s' : Shared) : Prop :=
  match r, use with
  | .ok _, none => ∃ m, s'.heap.Ns C m ∧ ∀ h', Heap.SameBut C s'.heap h' → Q acc { s' with heap := h' }
  | .ok _, some u => wpAny M A (u acc) (fun _ s'' => ∃ m, s''.heap.Ns C m ∧ ∀ h', Heap.SameBut C s''.heap h' → Q .none { s'' with heap := h' }) E s'
  | .error x, _ => ∃ m, s'.heap.Ns C m ∧ ∀ h', Heap.SameBut C s'.heap h' → ∀ cenv : PySem.Env, cenv.locals = C → cenv.frame = fr → wpAny M A (PySem.passOn "comprehension.variables-let-go" x cenv : Sem Value) (fun _ _ => False) E { s' with heap := h' }
theorem comp_freeF {e : Expr} {scope : Scope} {pos : Pos} {newAcc first : Sem Value} {g : Comprehension} {gs : List Comprehension} {cl : List (Str × Addr)} {use : Option (Value → Sem Unit)}
    {Q : Value → Shared → Prop}
    (hcl : clausesOf e = g :: gs) (hs : ∀ x, foldedSetIterable g.iter env x = pure x) (hclos : closureFor scope env = pure cl)
    (hkind : scope.kind = .function) (hnames : ∀ x ∈ scope.names, x.2 = .local → scope.names.lookup x.1 = some .local)
    (h : wpAny M A first (fun x s₁ => wpAny M A (pyIter x) (fun it s₂ => wpAny M A newAcc (fun acc s₃ =>
      wpAny M A (newFunctionEnv scope env.globals cl [] env.qual none .none (some env)) (fun cenv s₄ =>
        codeAny M A (.compStart e 0 it acc { cenv with scope := relabel scope env }) (postF M A E use Q acc cenv.locals cenv.frame) s₄) E s₃) E s₂) E s₁) E s) :
    wpAny M A (comprehension e scope env pos newAcc false first use) Q E s := by
  unfold comprehension
  rw [hclos, hcl]
  refine wpAny_bind (wpAny_mono h (fun x s₁ h₁ => wpAny_bind (wpAny_standAt (wpAny_bind (wpAny_of_eq (hs x) (wpAny_bind (wpAny_holding (wpAny_mono h₁ (fun it s₂ h₂ =>
    wpAny_standIf (wpAny_bind (wpAny_mono h₂ (fun acc s₃ h₃ => wpAny_bind (wpAny_pure (wpAny_bind (wpAny_mono h₃ (fun cenv s₄ h₄ => ?_) fun _ _ h' => h')))) fun _ _ h' => h')))
      fun _ _ h' => h'))))))) fun _ _ h' => h')
  dsimp only
  have hv : ∀ x ∈ (scope.names.filter fun x => (x.2 == .local || x.2 == .cell) && x.1 != (".0" : Str)).reverse, x.2 = .local →
      Env.kindOf { cenv with scope := relabel scope env } x.1 = some .local := fun x hx hl => lookup_relabel_local (hnames x (List.mem_filter.mp (List.mem_reverse.mp hx)).1 hl)
  have hv' : ∀ x ∈ (scope.names.filter fun x => (x.2 == .local || x.2 == .cell) && x.1 != (".0" : Str)).reverse.drop 1 ++ (scope.names.filter fun x => (x.2 == .local || x.2 == .cell) && x.1 != (".0" : Str)).reverse.take 1,
      x.2 = .local → Env.kindOf { cenv with scope := relabel scope env } x.1 = some .local := fun x hx hl => by
    rcases List.mem_append.mp hx with h1 | h1
    · exact hv x (List.mem_of_mem_drop h1) hl
    · exact hv x (List.mem_of_mem_take h1) hl
  refine wpAny_holding (wpAny_bind (wpAny_attempt (wpAny_holding (wpAny_run (codeAny_mono h₄ fun r s' hr => ?_)))))
  cases r with
  | ok f =>
    cases use with
    | none =>
      obtain ⟨m, hn, hr⟩ := hr
      exact wpAny_bind (wpAny_holding (wpAny_comp_letGo (cenv := { cenv with scope := relabel scope env }) hkind _ s' m hv hn fun h' m' _ hs' => wpAny_pure (hr h' hs')))
    | some u =>
      refine wpAny_bind (wpAny_rule (wpAny_bind (wpAny_holding (wpAny_mono hr (fun _ s'' hr' => ?_) fun _ _ h' => h'))))
      obtain ⟨m, hn, hr'⟩ := hr'
      exact wpAny_bind (wpAny_comp_letGo (cenv := { cenv with scope := relabel scope env }) hkind _ s'' m hv' hn fun h' m' _ hs' => wpAny_pure (hr' h' hs'))
  | error x =>
    have hr' : ∃ m, s'.heap.Ns cenv.locals m ∧ ∀ h', Heap.SameBut cenv.locals s'.heap h' → ∀ cenv' : PySem.Env, cenv'.locals = cenv.locals → cenv'.frame = cenv.frame → wpAny M A (PySem.passOn "comprehension.variables-let-go" x cenv' : Sem Value) (fun _ _ => False) E { s' with heap := h' } := by cases use <;> exact hr
    obtain ⟨m, hn, hr⟩ := hr'
    exact wpAny_bind (wpAny_holding (wpAny_comp_letGo (cenv := { cenv with scope := relabel scope env }) hkind _ s' m hv hn fun h' m' _ hs' => wpAny_mono (hr h' hs' _ rfl rfl) (fun _ _ f => f.elim) fun _ _ y => y))
end
/-- the block's context, with a wish of its own -/
abbrev blkX (X : Cx) (s : Shared) (H : Hp) (scope : Scope) (cenv : PySem.Env) (fp : List Addr) (xe : Value → Shared → Prop) : Cx := { X with s_0 := s, H_0 := H, env := cenv, outer := X.stack, ex := fp, fn := fun x => scope.names.lookup x == some .cell, pn := [], xe := xe }
theorem inv_xe {X : Cx} {xe : Value → Shared → Prop} {pins : List (Addr × Obj)} {σ : L2.St} {H : Hp} {s : Shared} (I : Inv X pins σ H s) : Inv { X with xe := xe } pins σ H s :=
  ⟨⟨I.ok.mod, I.ok.kind, I.ok.glob, I.ok.blt, I.ok.above, I.ok.inj, I.ok.has, I.ok.cab, I.ok.hd, I.ok.frames, I.ok.stk, I.ok.exf, I.ok.bs, I.ok.bsz, I.ok.noex, I.ok.exfs, I.ok.funs, I.ok.frf⟩, I.os, I.bare, I.base, I.loc, I.cell, I.free, I.freeC, I.pin, I.hok, I.len⟩
theorem note_eq {u : Value} {env env' : PySem.Env} (h : env.frame = env'.frame) : noteFrame u env = noteFrame u env' := by
  unfold noteFrame PySem.frameOf
  rw [h]
theorem funFrames_at {B h h' : Heap} : ∀ {l : List PySem.Env}, h.FunFrames B l → (∀ b ∈ frs l, h'.get? b = h.get? b) → h'.FunFrames B l
  | [], _, _ => trivial
  | env :: l, h, hn => by
    obtain ⟨hk, ⟨L, o, hf, hb, ho, hd⟩, hr⟩ := h
    exact ⟨hk, ⟨L, o, hf, hb, (hn L (List.mem_filterMap.mpr ⟨env, List.mem_cons_self, hf⟩)).trans ho, hd⟩, funFrames_at hr fun b hb => by
      obtain ⟨e, he, q⟩ := List.mem_filterMap.mp hb
      exact hn b (List.mem_filterMap.mpr ⟨e, List.mem_cons_of_mem _ he, q⟩)⟩
section
variable {X : Cx}
/-- what a comprehension does whose element may raise: te by the slots ahead of the block -/
def tLcX (wi : TI) (g : TG) (tt : TT) (te : L2.St → TE) (vs : List Nat) : TE := fun σ H Q => wi σ H fun J H1 => ∀ D, H1 D = none → ∃ W : Nat → Nat → Hp → Prop, (∃ m, W 0 m (upd H1 D (.lst []))) ∧ ∀ i m H, W i m H →
  (J.stop i H ∧ Q (.ref D) H) ∨ (J.go i H ∧ ∃ Nx : Hp → Prop, (∀ H', Nx H' → ∃ m', m' < m ∧ W (i + 1) m' H') ∧ ∀ x H', J.yld i H x H' → g x (wipe σ vs) H' fun σ2 H2 => wipe σ2 vs = wipe σ vs ∧ tt σ2 H2 fun b H3 =>
    if b = true then te σ σ2 H3 fun y H4 => ∃ acc, H4 D = some (.lst acc) ∧ acc.length < sizeLine ∧ Nx (upd H4 D (.lst (acc ++ [y]))) else Nx H3)
end
end Dn
set_option maxHeartbeats 2000000
namespace Dn
open PySem PySem.Spec PyProof.Rows L2
def xapp (as : List D) : List D ⊕ Xc → List D ⊕ Xc
  | .inl l => .inl (as ++ l)
  | .inr x => .inr x
theorem xapp_nil {r : List D ⊕ Xc} : xapp [] r = r := by cases r <;> rfl
theorem xapp_app {as bs : List D} {r : List D ⊕ Xc} : xapp as (xapp bs r) = xapp (as ++ bs) r := by
  cases r with
  | inl l => show Sum.inl (as ++ (bs ++ l)) = Sum.inl (as ++ bs ++ l); rw [List.append_assoc]
  | inr x => rfl
def lcX (vs : List Nat) (tg : D → Env → Option Env) (tt : Md Bool) (te : Mx D) : List D → Env → Option ((List D ⊕ Xc) × Env)
  | [], ρ => some (.inl [], ρ)
  | d :: ds, ρ => (tg d ρ).bind fun ρ1 => (tt ρ1).bind fun p => if p.1 = true then (te p.2).bind fun q => match q.1 with
      | .inl y => (lcX vs tg tt te ds (wipeE q.2 vs)).bind fun r => some (xapp [y] r.1, r.2)
      | .inr x => some (.inr x, wipeE q.2 vs)
    else lcX vs tg tt te ds (wipeE p.2 vs)
def xlist : List D ⊕ Xc → D ⊕ Xc
  | .inl l => .inl (.list l)
  | .inr x => .inr x
/-- [e for x in it if ..], e may raise -/
def xLc (vs : List Nat) (gi : Md (List D)) (tg : D → Env → Option Env) (tt : Md Bool) (te : Mx D) : Mx D := fun ρ => (gi ρ).bind fun p =>
  if p.1.length ≤ 16777216 ∧ vs.all (notOwn p.2) = true then (lcX vs tg tt te p.1 (wipeE p.2 vs)).bind fun r => some (xlist r.1, backE p.2 vs r.2) else none
/-- a new list of one's own, or an exception -/
def tXF (K : Kx) (mg : Str → Option Value) (W : WX) (g : Mx D) : TE := fun σ H Q => ∃ (F : Hp) (ρ : Env) (r : D ⊕ Xc) (ρ' : Env), St K F H σ ρ ∧ g ρ = some (r, ρ') ∧
  ∀ F' H', Stp F σ ρ H F' σ ρ' H' → St K F' H' σ ρ' → match r with
    | .inl d => ∀ a, OwnN K F' H' a d → ¬ Owns σ ρ' a → H a = none → Q (.ref a) H'
    | .inr x => XcOk mg W x σ H'
abbrev WSl (W : WX) (σ0 : L2.St) : WX := fun cls d _ H => W cls d σ0 H
section
variable {X : Cx} {W : WX}
theorem lcx_q {vs is : List Nat} (hv : ∀ j ∈ is, j ∈ vs) {gi : Md (List D)} {gt : D → Env → Option Env} {gc : Md Bool} {ge : Mx D} {σ : L2.St} {H : Hp} {Q : VK} (q : tXF (cxK X) X.mg W (xLc vs gi gt gc ge) σ H Q) : tLcX (tDI (cxK X) gi) (tDG (cxK X) is gt) (tDT (cxK X) gc) (fun σ0 => tX (cxK X) X.mg (WSl W σ0) ge) vs σ H Q := by
    obtain ⟨F, ρ, d, ρ', s, eg, k⟩ := q
    obtain ⟨⟨ds, ρ1⟩, e1, eg1⟩ := bind_some eg
    simp only at eg1
    split at eg1
    · rename_i hl
      obtain ⟨⟨rs, ρe⟩, e2, eg2⟩ := bind_some eg1
      cases eg2
      refine ⟨F, ρ, ds, ρ1, s, e1, fun J F1 H1 p1 s1 ok D hD => ?_⟩
      have hw := st_wipe s1 vs
      have hnv : ∀ i dd, ρ1[i]? = some (some (.own true dd)) → i ∉ vs := fun i dd e hi => not_own hl.2 hi e
      have p1w : Stp F1 σ ρ1 H1 F1 (wipe σ vs) (wipeE ρ1 vs) H1 := stp_wipe Stp.refl hnv
      have nD0 : ¬ Owns (wipe σ vs) (wipeE ρ1 vs) D := not_owns hw hD
      refine ⟨fun i m Hi => ∃ Fi ρi acc as rr, m = ds.length - i ∧ i ≤ ds.length ∧ Stp F1 σ ρ1 H1 Fi (wipe σ vs) ρi Hi ∧ St (cxK X) Fi Hi (wipe σ vs) ρi ∧ lcX vs gt gc ge (ds.drop i) ρi = some (rr, ρe) ∧ xapp as rr = rs ∧ (Fi D = none ∧ ¬ Owns (wipe σ vs) ρi D) ∧ Hi D = some (.lst acc) ∧ RpAll (cxK X) Fi acc as ∧ as.length ≤ i,
        ⟨ds.length, F1, wipeE ρ1 vs, [], [], rs, by simp, Nat.zero_le _, p1w.trans ((Grow.own s1.sub hD).stp _ _), hw.grow (Grow.own s1.sub hD), by simpa using e2, xapp_nil, ⟨none_sub s1.sub hD, nD0⟩, upd_same, .nil, by simp⟩, ?_⟩
      rintro i m Hi ⟨Fi, ρi, acc, as, rr, rfl, hi, pi, si, ei, er, ⟨fD, nD⟩, hDi, ra, la⟩
      have sff : Same F1 Fi := pi.ff
      by_cases hlt : i < ds.length
      · have hd : ds[i]? = some ds[i] := List.getElem?_eq_getElem hlt
        obtain ⟨ok1, _⟩ := ok Fi Hi sff si.sub i
        obtain ⟨go, yl⟩ := ok1 _ hd
        rw [drop_cons hd] at ei
        obtain ⟨ρ2, e3, ei1⟩ := bind_some ei
        obtain ⟨⟨b, ρ3⟩, e4, ei2⟩ := bind_some ei1
        refine .inr ⟨go, fun H' => ∃ F' ρ'' acc' as' rr', Stp F1 σ ρ1 H1 F' (wipe σ vs) ρ'' H' ∧ St (cxK X) F' H' (wipe σ vs) ρ'' ∧ lcX vs gt gc ge (ds.drop (i + 1)) ρ'' = some (rr', ρe) ∧ xapp as' rr' = rs ∧ (F' D = none ∧ ¬ Owns (wipe σ vs) ρ'' D) ∧ H' D = some (.lst acc') ∧ RpAll (cxK X) F' acc' as' ∧ as'.length ≤ i + 1,
          fun H' ⟨F', ρ'', acc', as', rr', z1, z2, z3, z4, z5, z6, z7, z8⟩ => ⟨ds.length - (i + 1), by omega, F', ρ'', acc', as', rr', rfl, hlt, z1, z2, z3, z4, z5, z6, z7, z8⟩, fun v H' hy => ?_⟩
        obtain ⟨F', gr, rv⟩ := yl v H' hy
        have q0 := gr.stp (wipe σ vs) ρi
        refine ⟨F', ρi, _, ρ2, si.grow gr, rv, e3, fun σ2 F2 H2 p2 s2 w2 => ?_⟩
        have ew : wipe σ2 vs = wipe σ vs := wipe_eq w2.2 hv (w2.1.trans (wipe_length σ vs))
        refine ⟨ew, F2, ρ2, b, ρ3, s2, e4, fun F3 H3 p3 s3 => ?_⟩
        have q3 := q0.trans (p2.trans p3)
        have fin : ∀ (F4 : Hp) (ρ4 : Env) (H4 : Hp), Stp Fi (wipe σ vs) ρi Hi F4 σ2 ρ4 H4 → St (cxK X) F4 H4 σ2 ρ4 → H4 D = some (.lst acc) ∧ F4 D = none ∧ ¬ Owns (wipe σ vs) (wipeE ρ4 vs) D ∧ Stp F1 σ ρ1 H1 F4 (wipe σ vs) (wipeE ρ4 vs) H4 ∧ St (cxK X) F4 H4 (wipe σ vs) (wipeE ρ4 vs) := fun F4 ρ4 H4 q s4 => by
          obtain ⟨h1, h2⟩ := q.keep D _ hDi nD
          have h3 := stp_wipe (pi.trans q) hnv
          have h4 := st_wipe s4 vs
          rw [ew] at h3 h4
          refine ⟨h1, h2.trans fD, fun z => ?_, h3, h4⟩
          obtain ⟨j, f, dd, z1, z2⟩ := z
          obtain ⟨z3, z4⟩ := wipeE_cell z1
          rw [← ew, wipe_out' z4] at z2
          rcases q.fresh D ⟨j, f, dd, z3, z2⟩ with y | y
          · exact nD y
          · rw [hDi] at y
            cases y
        cases b with
        | true =>
          rw [if_pos rfl] at ei2
          obtain ⟨⟨y, ρ4⟩, e5, ei3⟩ := bind_some ei2
          cases y with
          | inl y =>
            obtain ⟨⟨r, ρ5⟩, e6, ei4⟩ := bind_some ei3
            cases ei4
            refine ⟨F3, ρ3, _, ρ4, s3, e5, fun F4 H4 p4 s4 u r4 => ?_⟩
            have q4 := q3.trans p4
            obtain ⟨h1, h2, h3, h4, h5⟩ := fin F4 ρ4 H4 q4 s4
            refine ⟨acc, h1, by rw [line_eq, da_len ra]; omega, F4, wipeE ρ4 vs, acc ++ [u], as ++ [y], r, stp_side h4 hD, st_side h5 h2 h3, e6, by rw [← xapp_app]; exact er, ⟨h2, h3⟩, upd_same, da_app (dpAll_mono q4.ff _ _ ra) (.cons r4 .nil), by rw [List.length_append]; simpa using la⟩
          | inr x =>
            cases ei3
            have er : Sum.inr x = rs := er
            subst er
            refine ⟨F3, ρ3, _, ρ4, s3, e5, fun F4 H4 p4 s4 => ?_⟩
            obtain ⟨h1, h2, h3, h4, h5⟩ := fin F4 ρ4 H4 (q3.trans p4) s4
            obtain ⟨pb, sb⟩ := stp_back h4 (by rw [h5.len, wipe_length, s1.len]) hl.2
            exact k F4 H4 (p1.trans pb) (st_back s1 h5 h4.ff hl.2)
        | false =>
          rw [if_neg Bool.false_ne_true] at ei2
          obtain ⟨h1, h2, h3, h4, h5⟩ := fin F3 ρ3 H3 q3 s3
          exact ⟨F3, wipeE ρ3 vs, acc, as, rr, h4, h5, ei2, er, ⟨h2, h3⟩, h1, dpAll_mono q3.ff _ _ ra, by omega⟩
      · rw [List.drop_of_length_le (by omega)] at ei
        cases ei
        obtain ⟨_, st⟩ := ok Fi Hi sff si.sub i
        refine .inl ⟨st (by omega), ?_⟩
        have er : Sum.inl (as ++ []) = rs := er
        rw [List.append_nil] at er
        subst er
        obtain ⟨pb, sb⟩ := stp_back pi (by rw [si.len, wipe_length, s1.len]) hl.2
        exact k Fi Hi (p1.trans pb) (st_back s1 si sff hl.2) D ⟨⟨fD, .inl ⟨acc, as, rfl, hDi, ra⟩⟩, rfl⟩ (fun z => nD (sb D z)) (p1.none hD)
    · cases eg1
def xOwn (i : Nat) (g : Mx D) : Sx := xBind g fun d ρ => (setC i (.own false d) ρ).bind fun r => some (.inl .nx, r)
theorem sx_lcO {st : Stmt} {i : Nat} {vs is : List Nat} {gi : Md (List D)} {gt : D → Env → Option Env} {gc : Md Bool} {ge : Mx D} (h : PS X st (fun E σ H => tLcX (tDI (cxK X) gi) (tDG (cxK X) is gt) (tDT (cxK X) gc) (fun σ0 => tX (cxK X) X.mg (WSl W σ0) ge) vs σ H fun v H1 => E.nx (σ.set i (some v)) H1)) (hv : ∀ j ∈ is, j ∈ vs := by decide) : SX X W st (xOwn i (xLc vs gi gt gc ge)) :=
  ps_imp h fun E σ H q => by
    obtain ⟨F, ρ, f, ρ', s, eg, k⟩ := q
    rcases xb_some eg with ⟨d, ρ1, e1, eg1⟩ | ⟨x, e1, rfl⟩
    · obtain ⟨r, e2, eg2⟩ := bind_some eg1
      cases eg2
      refine lcx_q hv ⟨F, ρ, _, ρ1, s, e1, fun F1 H1 p1 s1 a o no hn => k _ F1 H1 (stp_set p1 e2 fun _ _ b _ z => ?_) (st_set s1 e2 ⟨a, rfl, o.1⟩ fun f _ b z1 z => ?_)⟩
      · cases z
        exact hn
      · cases z
        cases z1
        exact ⟨rfl, no⟩
    · exact lcx_q hv ⟨F, ρ, _, _, s, e1, fun F1 H1 p1 s1 => k σ F1 H1 p1 s1⟩
def xFail : Sx := fun _ => none
theorem sxs_fail {sts : List Stmt} : SXs X W sts xFail := ⟨fun pins s σ H E I q => by
  obtain ⟨F, ρ, f, ρ', st, eg, k⟩ := q
  cases eg⟩
def noR (f : List D → Option (D ⊕ Xc)) : List D → Option D := fun ds => match f ds with
  | some (.inl d) => some d
  | _ => none
theorem noR_some {f : List D → Option (D ⊕ Xc)} {ds : List D} {d : D} (h : noR f ds = some d) : f ds = some (.inl d) := by
  unfold noR at h
  split at h
  · rename_i e
    cases h
    exact e
  · cases h
end
end Dn
set_option maxHeartbeats 2000000
namespace Dn
open PySem PySem.Spec PyProof.Rows L2
section
variable {X : Cx} {e : Expr} {x : Str} {p pos : Pos}
def gCallIOF (f : D → List D → Option (D × D)) (g : Md D) : Md D := fun ρ => (g ρ).bind fun p => (f p.1 []).bind fun r => some (r.1, p.2)
end
end Dn
set_option maxHeartbeats 2000000
namespace Dn
open PySem PySem.Spec PyProof.Rows L2
section
variable {X : Cx} {pos : Pos} {x : Str}
/-- what the module's name stands for -/
def GTup (K : PySem.W.Frag) (mg : Str → Option Value) (x : Str) (ss : List Str) : Prop := ∃ a, mg x = some (.ref a) ∧ ∃ (o : Obj) (its : Array Value) (n : Nat), K.lookup a = some o ∧ o.cls = .type "tuple" ∧ o.data = .seq its n ∧ its.size ≤ sizeLine ∧ Vals (ss.map V.str) its.toList
theorem rp_strs {K : Kx} {F : Hp} : ∀ ss : List Str, RpAll K F (ss.map V.str) (ss.map PyData.str)
  | [] => .nil
  | s :: ss => .cons (.str s) (rp_strs ss)
theorem de_globT {ss : List Str} (hg : Gl X x) (h : GTup X.K X.mg x ss) (hd : (x == ("__debug__" : Str)) = false := by decide) : DE X (.Name x pos) (gC (.tuple (ss.map PyData.str))) := by
  obtain ⟨a, ha, o, its, n, h1, h2, h3, h4, h5⟩ := h
  exact de_const (t := tC .non) (v := .ref a) (pe_glob hg ha rfl hd) fun _ => .tup (.inr ⟨o, its, n, h1, h2, h3, h4, h5⟩) (rp_strs ss)
theorem gtup_mk {K : PySem.W.Frag} {mg : Str → Option Value} {ss : List Str} {a : Addr} {od : Option Addr} {its : Array Value} {n : Nat} {sl : Array (Option Value)} (hm : mg x = some (.ref a)) (hl : K.lookup a = some ⟨.type "tuple", od, .seq its n, sl⟩) (hz : its.size ≤ sizeLine) (hv : Vals (ss.map V.str) its.toList) : GTup K mg x ss := ⟨a, hm, _, its, n, hl, rfl, rfl, hz, hv⟩
/-- a call without arguments of a def that may raise -/
theorem pe_callS0 {CX : CXT} {k : Nat} {f : Addr} {fd : FuncData} {ps : List Str} {sp : Sp} {E : L2.St → XK} {p : Pos} (F : FnOk X.prog X.w X.K X.mg X.base CX k f fd ps sp) (hr : Room k X.A) (hg : Gl X x) (hm : X.mg x = some (.ref f)) (hk : PySem.W.keepIn X.K (.ref f) = true) (hb : Binds X.K fd ps []) (hx : ∀ σ, PassesAt CX X σ (E σ))
    (hdb : (x == ("__debug__" : Str)) = false := by decide) : PE X (.Call (.Name x p) [] [] pos) (fun σ H Q => sp [] H Q (E σ)) := by
  refine ⟨fun pins s σ H Q I h => ?_⟩
  refine wpAny_Call_Name_kw (ld_glob I hg hm ?_ hdb)
  exact PySem.W.callWith_K0 I.kIn hk (run_fnS (us := []) F hr hb (hx σ) I .nil h)
end
end Dn
set_option maxHeartbeats 2000000
namespace Dn
open PySem PySem.Spec PyProof.Rows L2
section
variable {prog : Program} {w : World} {A : Around} {E : Value → Shared → Prop} {s : Shared}
def lt1 (h : Heap) (l1 : Addr) : Heap := h.push { cls := .type "list_iterator", data := .fields #[.ref l1, .int 0 0] }
def lt2 (h : Heap) (l1 l2 : Addr) : Heap := (lt1 h l1).push { cls := .type "tuple_iterator", data := .fields #[.ref l2, .int 0 0] }
def lt3 (h : Heap) (l1 l2 : Addr) : Heap := (lt2 h l1 l2).push { cls := .type "tuple", data := .seq #[.ref h.objs.size, .ref (lt1 h l1).objs.size] }
end
end Dn
set_option maxHeartbeats 2000000
namespace Dm
open PySem Dn
abbrev Env := Dn.Env
def Wo {α : Type} (o : Option α) (Q : α → Prop) : Prop := ∃ a, o = some a ∧ Q a
def Wm {α : Type} (g : Md α) (ρ : Env) (Q : α → Env → Prop) : Prop := Wo (g ρ) fun p => Q p.1 p.2
def Ws (g : Sd) (ρ : Env) (Q : Fl → Env → Prop) : Prop := Wo (g ρ) fun p => Q p.1 p.2
section
variable {α β : Type} {ρ : Env}
theorem wo_some {a : α} {Q : α → Prop} : Wo (some a) Q ↔ Q a := ⟨fun ⟨_, e, q⟩ => by cases e; exact q, fun q => ⟨a, rfl, q⟩⟩
theorem wo_none {Q : α → Prop} : Wo (none : Option α) Q ↔ False := ⟨fun ⟨_, e, _⟩ => (by cases e), False.elim⟩
theorem wo_bind {o : Option α} {f : α → Option β} {Q : β → Prop} : Wo (o.bind f) Q ↔ Wo o fun a => Wo (f a) Q := by
  cases o with
  | none => exact ⟨fun ⟨_, e, _⟩ => (by cases e), fun ⟨_, e, _⟩ => (by cases e)⟩
  | some a => exact ⟨fun h => ⟨a, rfl, h⟩, fun ⟨_, e, h⟩ => by cases e; exact h⟩
theorem wo_mono {o : Option α} {Q Q' : α → Prop} (h : Wo o Q) (i : ∀ a, Q a → Q' a) : Wo o Q' := let ⟨a, e, q⟩ := h; ⟨a, e, i a q⟩
theorem wo_ite {c : Prop} [Decidable c] {a b : Option α} {Q : α → Prop} : Wo (if c then a else b) Q ↔ if c then Wo a Q else Wo b Q := by
  by_cases h : c
  · rw [if_pos h, if_pos h]
  · rw [if_neg h, if_neg h]
theorem wo_eq {o : Option α} {a : α} : Wo o (fun x => x = a) ↔ o = some a := ⟨fun ⟨_, e, q⟩ => by rw [e, q], fun h => ⟨a, h, rfl⟩⟩
def valOf : Option (Option Cell) → Option D
  | some (some (.val d)) => some d
  | _ => none
theorem valOf_val {d : D} : valOf (some (some (.val d))) = some d := rfl
/-- own lists that are looked at -/
def frzOf (i : Nat) (ρ : Env) : Option (Option Cell) → Option (D × Env)
  | some (some (.val d)) => some (d, ρ)
  | some (some (.own false d)) => if notT d = true then some (d, ρ.set i (some (.val d))) else none
  | _ => none
theorem frz_val {i : Nat} {d : D} : frzOf i ρ (some (some (.val d))) = some (d, ρ) := rfl
theorem frz_own {i : Nat} {xs : List D} : frzOf i ρ (some (some (.own false (.list xs)))) = some (.list xs, ρ.set i (some (.val (.list xs)))) := rfl
theorem frz_ownD {i : Nat} {xs : List (D × D)} : frzOf i ρ (some (some (.own false (.dict xs)))) = some (.dict xs, ρ.set i (some (.val (.dict xs)))) := rfl
def cOwn : Option (Option Cell) → Option (Bool × D)
  | some (some (.own b d)) => some (b, d)
  | _ => none
theorem cOwn_own {b : Bool} {d : D} : cOwn (some (some (.own b d))) = some (b, d) := rfl
def peekOf : Option (Option Cell) → Option D
  | some (some (.val d)) => some d
  | some (some (.own _ d)) => if notT d = true then some d else none
  | _ => none
theorem peek_val {d : D} : peekOf (some (some (.val d))) = some d := rfl
theorem peek_own {b : Bool} {xs : List D} : peekOf (some (some (.own b (.list xs)))) = some (.list xs) := rfl
theorem peek_ownD {b : Bool} {xs : List (D × D)} : peekOf (some (some (.own b (.dict xs)))) = some (.dict xs) := rfl
theorem ixO_l {xs : List D} {x : D} : ixO (.list xs) x = ixD (.list xs) x := rfl
theorem ixO_d {xs : List (D × D)} {x : D} : ixO (.dict xs) x = ixD (.dict xs) x := rfl
def canSet : Option (Option Cell) → Option Unit
  | some (some (.own true _)) => none
  | some _ => some ()
  | none => none
theorem canSet_none : canSet (some none) = some () := rfl
theorem canSet_val {d : D} : canSet (some (some (.val d))) = some () := rfl
theorem canSet_own {d : D} : canSet (some (some (.own false d))) = some () := rfl
def lstOf : D → Option (List D)
  | .list ds => some ds
  | _ => none
theorem lstOf_list {ds : List D} : lstOf (.list ds) = some ds := rfl
variable {Q : D → Env → Prop}
theorem wm_c {d : D} : Wm (gC d) ρ Q ↔ Q d ρ := wo_some
theorem wm_var {i : Nat} : Wm (gVar i) ρ Q ↔ Wo (valOf ρ[i]?) fun d => Q d ρ := by
  unfold Wm gVar
  split
  · rename_i d h
    rw [h, wo_some, valOf_val, wo_some]
  · rename_i h
    have e : valOf ρ[i]? = none := by
      unfold valOf
      split
      · rename_i d z
        exact absurd z (h d)
      · rfl
    rw [e, wo_none, wo_none]
theorem wm_frz {i : Nat} : Wm (gFrz i) ρ Q ↔ Wo (frzOf i ρ ρ[i]?) fun p => Q p.1 p.2 := by
  unfold Wm gFrz frzOf
  exact Iff.rfl
theorem wm_bin {f : D → D → Option D} {a b : Md D} : Wm (gBin f a b) ρ Q ↔ Wm a ρ fun x ρ1 => Wm b ρ1 fun y ρ2 => Wo (f x y) fun r => Q r ρ2 := by
  unfold Wm gBin
  simp only [wo_bind, wo_some]
theorem wm_un {f : D → Option D} {a : Md D} : Wm (gUn f a) ρ Q ↔ Wm a ρ fun x ρ1 => Wo (f x) fun r => Q r ρ1 := by
  unfold Wm gUn
  simp only [wo_bind, wo_some]
theorem wm_tst {a : Md D} {Q : Bool → Env → Prop} : Wm (gTst a) ρ Q ↔ Wm a ρ fun x ρ1 => Wo (bOf x) fun b => Q b ρ1 := by
  unfold Wm gTst
  simp only [wo_bind, wo_some]
theorem wm_tru {a : Md D} {Q : Bool → Env → Prop} : Wm (gTru a) ρ Q ↔ Wm a ρ fun x ρ1 => Wo (truT x) fun b => Q b ρ1 := by
  unfold Wm gTru
  simp only [wo_bind, wo_some]
theorem wm_truB {i : Nat} {Q : Bool → Env → Prop} : Wm (gTruB i) ρ Q ↔ Wo (peekOf ρ[i]?) fun d => Wo (truT d) fun b => Q b ρ := by
  unfold Wm gTruB
  simp only [wo_bind, wo_some]
  exact Iff.rfl
theorem wm_chain {f f' : D → D → Option D} {a b c : Md D} : Wm (gChain f f' a b c) ρ Q ↔ Wm a ρ fun x ρ1 => Wm b ρ1 fun y ρ2 => Wo (f x y) fun r => Wo (bOf r) fun t =>
    if t = true then Wm c ρ2 fun z ρ3 => Wo (f' y z) fun r => Q r ρ3 else Q (.bool false) ρ2 := by
  unfold Wm gChain
  simp only [wo_bind, wo_some, wo_ite]
theorem wm_and {a b : Md Bool} {Q : Bool → Env → Prop} : Wm (gAnd a b) ρ Q ↔ Wm a ρ fun x ρ1 => if x = true then Wm b ρ1 Q else Q false ρ1 := by
  unfold Wm gAnd
  simp only [wo_bind, wo_some, wo_ite]
theorem wm_or {a b : Md Bool} {Q : Bool → Env → Prop} : Wm (gOr a b) ρ Q ↔ Wm a ρ fun x ρ1 => if x = true then Q true ρ1 else Wm b ρ1 Q := by
  unfold Wm gOr
  simp only [wo_bind, wo_some, wo_ite]
theorem wm_not {a : Md Bool} {Q : Bool → Env → Prop} : Wm (gNot a) ρ Q ↔ Wm a ρ fun x ρ1 => Q (!x) ρ1 := by
  unfold Wm gNot
  simp only [wo_bind, wo_some]
theorem wm_andV {a b : Md D} : Wm (gAndV a b) ρ Q ↔ Wm a ρ fun x ρ1 => Wo (bOf x) fun t => if t = true then Wm b ρ1 Q else Q (.bool false) ρ1 := by
  unfold Wm gAndV
  simp only [wo_bind, wo_some, wo_ite]
theorem wm_orV {a b : Md D} : Wm (gOrV a b) ρ Q ↔ Wm a ρ fun x ρ1 => Wo (bOf x) fun t => if t = true then Q (.bool true) ρ1 else Wm b ρ1 Q := by
  unfold Wm gOrV
  simp only [wo_bind, wo_some, wo_ite]
theorem wm_notV {a : Md D} : Wm (gNotV a) ρ Q ↔ Wm a ρ fun x ρ1 => Wo (bOf x) fun t => Q (.bool !t) ρ1 := by
  unfold Wm gNotV
  simp only [wo_bind, wo_some]
theorem wm_ifE {c : Md Bool} {a b : Md D} : Wm (gIfE c a b) ρ Q ↔ Wm c ρ fun x ρ1 => if x = true then Wm a ρ1 Q else Wm b ρ1 Q := by
  unfold Wm gIfE
  simp only [wo_bind, wo_some, wo_ite]
theorem wm_nil {Q : List D → Env → Prop} : Wm gNil ρ Q ↔ Q [] ρ := wo_some
theorem wm_cons {a : Md D} {b : Md (List D)} {Q : List D → Env → Prop} : Wm (gCons a b) ρ Q ↔ Wm a ρ fun x ρ1 => Wm b ρ1 fun y ρ2 => Q (x :: y) ρ2 := by
  unfold Wm gCons
  simp only [wo_bind, wo_some]
theorem wm_app {f : List D → Option D} {a : Md (List D)} : Wm (gApp f a) ρ Q ↔ Wm a ρ fun x ρ1 => Wo (f x) fun r => Q r ρ1 := by
  unfold Wm gApp
  simp only [wo_bind, wo_some]
theorem wm_noP {Q : Option Int → Env → Prop} : Wm gNoP ρ Q ↔ Q none ρ := wo_some
theorem wm_part {a : Md D} {Q : Option Int → Env → Prop} : Wm (gPart a) ρ Q ↔ Wm a ρ fun x ρ1 => Wo (iOf x) fun i => Q (some i) ρ1 := by
  unfold Wm gPart
  simp only [wo_bind, wo_some]
theorem wm_sl {a : Md D} {l h : Md (Option Int)} : Wm (gSl a l h) ρ Q ↔ Wm a ρ fun x ρ1 => Wm l ρ1 fun i ρ2 => Wm h ρ2 fun j ρ3 => Wo (cutD x i j) fun r => Q r ρ3 := by
  unfold Wm gSl
  simp only [wo_bind, wo_some]
theorem wm_pk {i : Nat} {f : List D → Option D} : Wm (gPk i f) ρ Q ↔ Wo (peekOf ρ[i]?) fun d => Wo (f [d]) fun r => flatD r = true ∧ Q r ρ := by
  unfold Wm gPk
  simp only [wo_bind]
  refine Iff.of_eq (congrArg _ (funext fun d => congrArg _ (funext fun r => ?_)))
  rw [wo_ite, wo_some, wo_none]
  by_cases h : flatD r = true
  · rw [if_pos h]; simp [h]
  · rw [if_neg h]; simp [h]
theorem cOwn_some {o : Option (Option Cell)} {p : Bool × D} (h : cOwn o = some p) : o = some (some (.own p.1 p.2)) := by
  unfold cOwn at h
  split at h
  · cases h; rfl
  · cases h
theorem wm_io {i : Nat} {f : D → List D → Option (D × D)} {a : Md (List D)} : Wm (gCallIO i f a) ρ Q ↔ Wo (cOwn ρ[i]?) fun _ => Wm a ρ fun ds ρ1 => Wo (cOwn ρ1[i]?) fun c => Wo (f c.2 ds) fun r => Q r.1 (ρ1.set i (some (.own c.1 r.2))) := by
  unfold Wm gCallIO
  split
  · rename_i b d h
    rw [h, cOwn_own, wo_some, wo_bind]
    refine Iff.of_eq (congrArg _ (funext fun p => ?_))
    try dsimp only
    split
    · rename_i b1 d1 h1
      rw [h1, cOwn_own, wo_some, wo_bind]
      simp only [wo_some]
    · rename_i h1
      have e : cOwn p.2[i]? = none := by
        unfold cOwn
        split
        · rename_i b2 d2 z
          exact absurd z (h1 b2 d2)
        · rfl
      rw [e, wo_none, wo_none]
  · rename_i h
    have e : cOwn ρ[i]? = none := by
      unfold cOwn
      split
      · rename_i b2 d2 z
        exact absurd z (h b2 d2)
      · rfl
    rw [e, wo_none, wo_none]
theorem wm_ixB_val {i : Nat} {a : Md D} {d : D} (h : ρ[i]? = some (some (.val d))) : Wm (gIxB i a) ρ Q ↔ Wm a ρ fun x ρ1 => Wo (ixD d x) fun r => Q r ρ1 := by
  unfold Wm gIxB
  rw [h]
  simp only [wo_bind, wo_some]
theorem wm_ixB {i : Nat} {a : Md D} {b : Bool} {d : D} (h : ρ[i]? = some (some (.own b d))) : Wm (gIxB i a) ρ Q ↔ Wm a ρ fun x ρ1 => Wo (cOwn ρ1[i]?) fun c => Wo (ixO c.2 x) fun r => Q r ρ1 := by
  unfold Wm gIxB
  rw [h]
  simp only [wo_bind]
  refine Iff.of_eq (congrArg _ (funext fun p => ?_))
  try dsimp only
  split
  · rename_i b1 d1 h1
    rw [h1, cOwn_own, wo_some, wo_bind]
    simp only [wo_some]
  · rename_i h1
    have e : cOwn p.2[i]? = none := by
      unfold cOwn
      split
      · rename_i b2 d2 z
        exact absurd z (h1 b2 d2)
      · rfl
    rw [e, wo_none, wo_none]
def byCell (o : Option (Option Cell)) (p : D → Prop) (q : Prop) : Prop := match o with
  | some (some (.val d)) => p d
  | some (some (.own _ _)) => q
  | _ => False
theorem by_val {d : D} {p : D → Prop} {q : Prop} : byCell (some (some (.val d))) p q ↔ p d := Iff.rfl
theorem by_own {b : Bool} {d : D} {p : D → Prop} {q : Prop} : byCell (some (some (.own b d))) p q ↔ q := Iff.rfl
theorem wm_ix {i : Nat} {a : Md D} : Wm (gIxB i a) ρ Q ↔ byCell ρ[i]? (fun d => Wm a ρ fun x ρ1 => Wo (ixD d x) fun r => Q r ρ1) (Wm a ρ fun x ρ1 => Wo (cOwn ρ1[i]?) fun c => Wo (ixO c.2 x) fun r => Q r ρ1) := by
  cases h : ρ[i]? with
  | none =>
    unfold Wm gIxB
    rw [h, wo_none]
    exact Iff.rfl
  | some o =>
    cases o with
    | none =>
      unfold Wm gIxB
      rw [h, wo_none]
      exact Iff.rfl
    | some c =>
      cases c with
      | val d => exact wm_ixB_val h
      | own b d => exact wm_ixB h
theorem wm_inB {neg : Bool} {i : Nat} {a : Md D} : Wm (gInB neg i a) ρ Q ↔ Wm a ρ fun x ρ1 => Wo (peekOf ρ1[i]?) fun e => Wo (inT x e) fun b => Q (.bool (if neg = true then !b else b)) ρ1 := by
  unfold Wm gInB
  simp only [wo_bind, wo_some]
  exact Iff.rfl
theorem wm_true {Q : Bool → Env → Prop} : Wm gTrue ρ Q ↔ Q true ρ := wo_some
theorem wm_seq {a : Md D} {Q : List D → Env → Prop} : Wm (gSeq a) ρ Q ↔ Wm a ρ fun x ρ1 => Wo (seqOf x) fun ds => Q ds ρ1 := by
  unfold Wm gSeq
  simp only [wo_bind, wo_some]
def oneInt : List D → Option Int
  | [.int j] => if small62 j = true then some j else none
  | _ => none
theorem oneInt_int {j : Int} : oneInt [.int j] = if small62 j = true then some j else none := rfl
theorem wm_rng1 {a : Md (List D)} {Q : List D → Env → Prop} : Wm (gRng1 a) ρ Q ↔ Wm a ρ fun x ρ1 => Wo (oneInt x) fun j => Q (rngL 0 j.toNat) ρ1 := by
  unfold Wm gRng1
  rw [wo_bind]
  refine Iff.of_eq (congrArg _ (funext fun p => ?_))
  try dsimp only
  split
  · rename_i j e
    rw [e, oneInt_int, wo_ite, wo_ite, wo_some, wo_some, wo_none, wo_none]
  · rename_i h
    have e : oneInt p.1 = none := by
      unfold oneInt
      split
      · rename_i j z
        exact absurd z (h j)
      · rfl
    rw [e, wo_none, wo_none]
def twoInts : List D → Option (Int × Int)
  | [.int i, .int j] => if small62 i = true ∧ small62 j = true then some (i, j) else none
  | _ => none
theorem twoInts_int {i j : Int} : twoInts [.int i, .int j] = if small62 i = true ∧ small62 j = true then some (i, j) else none := rfl
theorem wm_rng2 {a : Md (List D)} {Q : List D → Env → Prop} : Wm (gRng2 a) ρ Q ↔ Wm a ρ fun x ρ1 => Wo (twoInts x) fun p => Q (rngL p.1 (p.2 - p.1).toNat) ρ1 := by
  unfold Wm gRng2
  rw [wo_bind]
  refine Iff.of_eq (congrArg _ (funext fun p => ?_))
  try dsimp only
  split
  · rename_i i j e
    rw [e, twoInts_int, wo_ite, wo_ite, wo_some, wo_some, wo_none, wo_none]
  · rename_i h
    have e : twoInts p.1 = none := by
      unfold twoInts
      split
      · rename_i i j z
        exact absurd z (h i j)
      · rfl
    rw [e, wo_none, wo_none]
def thenQ (t : Sd) (Q : Fl → Env → Prop) : Fl → Env → Prop
  | .nx, ρ => Ws t ρ Q
  | .ret d, ρ => Q (.ret d) ρ
  | .rof d, ρ => Q (.rof d) ρ
  | .brk, ρ => Q .brk ρ
  | .cnt, ρ => Q .cnt ρ
variable {R : Fl → Env → Prop}
theorem then_nx {t : Sd} : thenQ t R .nx ρ ↔ Ws t ρ R := Iff.rfl
theorem then_ret {t : Sd} {d : D} : thenQ t R (.ret d) ρ ↔ R (.ret d) ρ := Iff.rfl
theorem then_rof {t : Sd} {d : D} : thenQ t R (.rof d) ρ ↔ R (.rof d) ρ := Iff.rfl
theorem then_brk {t : Sd} : thenQ t R .brk ρ ↔ R .brk ρ := Iff.rfl
theorem then_cnt {t : Sd} : thenQ t R .cnt ρ ↔ R .cnt ρ := Iff.rfl
theorem ws_next : Ws sNext ρ R ↔ R .nx ρ := wo_some
theorem ws_brk : Ws sBrk ρ R ↔ R .brk ρ := wo_some
theorem ws_cnt : Ws sCnt ρ R ↔ R .cnt ρ := wo_some
theorem ws_seq {s t : Sd} : Ws (sSeq s t) ρ R ↔ Ws s ρ (thenQ t R) := by
  unfold Ws sSeq
  rw [wo_bind]
  refine Iff.of_eq (congrArg _ (funext fun p => ?_))
  try dsimp only
  obtain ⟨f, ρ1⟩ := p
  cases f with
  | nx => rfl
  | ret d => exact propext wo_some
  | rof d => exact propext wo_some
  | brk => exact propext wo_some
  | cnt => exact propext wo_some
theorem ws_if {g : Md Bool} {s t : Sd} : Ws (sIf g s t) ρ R ↔ Wm g ρ fun b ρ1 => if b = true then Ws s ρ1 R else Ws t ρ1 R := by
  unfold Ws Wm sIf
  simp only [wo_bind, wo_ite]
theorem ws_ret {g : Md D} : Ws (sRet g) ρ R ↔ Wm g ρ fun d ρ1 => R (.ret d) ρ1 := by
  unfold Ws Wm sRet
  simp only [wo_bind, wo_some]
theorem ws_rof {g : Md D} : Ws (sRof g) ρ R ↔ Wm g ρ fun d ρ1 => R (.rof d) ρ1 := by
  unfold Ws Wm sRof
  simp only [wo_bind, wo_some]
theorem ws_drop {g : Md D} : Ws (sDrop g) ρ R ↔ Wm g ρ fun _ ρ1 => R .nx ρ1 := by
  unfold Ws Wm sDrop
  simp only [wo_bind, wo_some]
theorem setC_eq {i : Nat} {c : Cell} : setC i c ρ = (canSet ρ[i]?).bind fun _ => some (ρ.set i (some c)) := by
  unfold setC canSet
  split <;> rename_i h <;> simp only [h] <;> try rfl
theorem ws_set {i : Nat} {g : Md D} : Ws (sSet i g) ρ R ↔ Wm g ρ fun d ρ1 => Wo (canSet ρ1[i]?) fun _ => R .nx (ρ1.set i (some (.val d))) := by
  unfold Ws Wm sSet
  simp only [wo_bind, wo_some, setC_eq]
theorem ws_own {i : Nat} {g : Md D} : Ws (sOwn i g) ρ R ↔ Wm g ρ fun d ρ1 => Wo (canSet ρ1[i]?) fun _ => R .nx (ρ1.set i (some (.own false d))) := by
  unfold Ws Wm sOwn
  simp only [wo_bind, wo_some, setC_eq]
theorem ws_asg {g : Md D} {t : D → Env → Option Env} : Ws (sAsg g t) ρ R ↔ Wm g ρ fun d ρ1 => Wo (t d ρ1) fun r => R .nx r := by
  unfold Ws Wm sAsg
  simp only [wo_bind, wo_some]
theorem wo_TN {i : Nat} {d : D} {Q : Env → Prop} : Wo (gTN i d ρ) Q ↔ Wo (canSet ρ[i]?) fun _ => Q (ρ.set i (some (.val d))) := by
  unfold gTN
  simp only [setC_eq, wo_bind, wo_some]
theorem wo_TNil {Q : Env → Prop} : Wo (gTNil [] ρ) Q ↔ Q ρ := wo_some
theorem wo_TCons {g : D → Env → Option Env} {gs : List D → Env → Option Env} {d : D} {ds : List D} {Q : Env → Prop} : Wo (gTCons g gs (d :: ds) ρ) Q ↔ Wo (g d ρ) fun ρ1 => Wo (gs ds ρ1) Q := wo_bind
theorem wo_TTup {n : Nat} {gs : List D → Env → Option Env} {ds : List D} {Q : Env → Prop} : Wo (gTTup n gs (.tuple ds) ρ) Q ↔ ds.length = n ∧ Wo (gs ds ρ) Q := by
  show Wo (if ds.length = n then gs ds ρ else none) Q ↔ _
  by_cases h : ds.length = n
  · rw [if_pos h]; simp [h]
  · rw [if_neg h, wo_none]; simp [h]
theorem ws_app {i : Nat} {g : Md D} {b0 : Bool} {xs : List D} (h : ρ[i]? = some (some (.own b0 (.list xs)))) : Ws (sApp i g) ρ R ↔ Wm g ρ fun d ρ1 => Wo (cOwn ρ1[i]?) fun c => Wo (lstOf c.2) fun ds => ds.length < 16777216 ∧ R .nx (ρ1.set i (some (.own c.1 (.list (ds ++ [d]))))) := by
  unfold Ws Wm sApp
  rw [h]
  simp only [wo_bind]
  refine Iff.of_eq (congrArg _ (funext fun p => ?_))
  try dsimp only
  split
  · rename_i b1 ds h1
    rw [h1, cOwn_own, wo_some]
    show _ = Wo (lstOf (.list ds)) _
    rw [lstOf_list, wo_some]
    by_cases hl : ds.length < 16777216
    · rw [if_pos hl, wo_some]; simp [hl]
    · rw [if_neg hl, wo_none]; simp [hl]
  · rename_i h1
    cases q : cOwn p.2[i]? with
    | none => rw [wo_none, wo_none]
    | some c =>
      have e := cOwn_some q
      rw [wo_none, wo_some]
      cases z : c.2 with
      | list ds => exact absurd (by rw [e, z]) (h1 c.1 ds)
      | none => exact propext ⟨False.elim, fun ⟨_, e, _⟩ => (by cases e)⟩
      | bool _ => exact propext ⟨False.elim, fun ⟨_, e, _⟩ => (by cases e)⟩
      | int _ => exact propext ⟨False.elim, fun ⟨_, e, _⟩ => (by cases e)⟩
      | str _ => exact propext ⟨False.elim, fun ⟨_, e, _⟩ => (by cases e)⟩
      | tuple _ => exact propext ⟨False.elim, fun ⟨_, e, _⟩ => (by cases e)⟩
      | dict _ => exact propext ⟨False.elim, fun ⟨_, e, _⟩ => (by cases e)⟩
theorem ws_ap {i : Nat} {g : Md D} : Ws (sApp i g) ρ R ↔ Wo (cOwn ρ[i]?) fun c0 => Wo (lstOf c0.2) fun _ => Wm g ρ fun d ρ1 => Wo (cOwn ρ1[i]?) fun c => Wo (lstOf c.2) fun ds => ds.length < 16777216 ∧ R .nx (ρ1.set i (some (.own c.1 (.list (ds ++ [d]))))) := by
  cases h : cOwn ρ[i]? with
  | none =>
    rw [wo_none]
    unfold Ws sApp
    split
    · rename_i b0 d0 h0
      rw [h0] at h
      cases h
    · rw [wo_none]
  | some c =>
    have e := cOwn_some h
    rw [wo_some]
    cases z : c.2 with
    | list xs =>
      rw [z] at e
      rw [lstOf_list, wo_some]
      exact ws_app e
    | none => exact ⟨fun ⟨_, q, _⟩ => (by rw [z] at e; unfold sApp at q; rw [e] at q; cases q), fun ⟨_, q, _⟩ => (by cases q)⟩
    | bool _ => exact ⟨fun ⟨_, q, _⟩ => (by rw [z] at e; unfold sApp at q; rw [e] at q; cases q), fun ⟨_, q, _⟩ => (by cases q)⟩
    | int _ => exact ⟨fun ⟨_, q, _⟩ => (by rw [z] at e; unfold sApp at q; rw [e] at q; cases q), fun ⟨_, q, _⟩ => (by cases q)⟩
    | str _ => exact ⟨fun ⟨_, q, _⟩ => (by rw [z] at e; unfold sApp at q; rw [e] at q; cases q), fun ⟨_, q, _⟩ => (by cases q)⟩
    | tuple _ => exact ⟨fun ⟨_, q, _⟩ => (by rw [z] at e; unfold sApp at q; rw [e] at q; cases q), fun ⟨_, q, _⟩ => (by cases q)⟩
    | dict _ => exact ⟨fun ⟨_, q, _⟩ => (by rw [z] at e; unfold sApp at q; rw [e] at q; cases q), fun ⟨_, q, _⟩ => (by cases q)⟩
theorem ws_setIx {i : Nat} {gv gi : Md D} : Ws (sSetIx i gv gi) ρ R ↔ Wm gv ρ fun d ρ1 => Wo (cOwn ρ1[i]?) fun _ => Wm gi ρ1 fun x ρ2 => Wo (iOf x) fun z => Wo (cOwn ρ2[i]?) fun c => Wo (lstOf c.2) fun ds => Wo (ixS ds.length z) fun j => R .nx (ρ2.set i (some (.own c.1 (.list (ds.set j d))))) := by
  unfold Ws Wm sSetIx
  rw [wo_bind]
  refine Iff.of_eq (congrArg _ (funext fun p => ?_))
  try dsimp only
  split
  · rename_i b0 d0 h0
    rw [h0, cOwn_own, wo_some, wo_bind]
    refine congrArg _ (funext fun q => ?_)
    try dsimp only
    rw [wo_bind]
    refine congrArg _ (funext fun z => ?_)
    try dsimp only
    split
    · rename_i b1 ds h1
      rw [h1, cOwn_own, wo_some, wo_bind]
      show _ = Wo (lstOf (.list ds)) _
      rw [lstOf_list, wo_some]
      simp only [wo_some]
    · rename_i h1
      cases q2 : cOwn q.2[i]? with
      | none => rw [wo_none, wo_none]
      | some c =>
        have e := cOwn_some q2
        rw [wo_none, wo_some]
        cases z : c.2 with
        | list ds => exact absurd (by rw [e, z]) (h1 c.1 ds)
        | none => exact propext ⟨False.elim, fun ⟨_, e, _⟩ => (by cases e)⟩
        | bool _ => exact propext ⟨False.elim, fun ⟨_, e, _⟩ => (by cases e)⟩
        | int _ => exact propext ⟨False.elim, fun ⟨_, e, _⟩ => (by cases e)⟩
        | str _ => exact propext ⟨False.elim, fun ⟨_, e, _⟩ => (by cases e)⟩
        | tuple _ => exact propext ⟨False.elim, fun ⟨_, e, _⟩ => (by cases e)⟩
        | dict _ => exact propext ⟨False.elim, fun ⟨_, e, _⟩ => (by cases e)⟩
  · rename_i h
    have e : cOwn p.2[i]? = none := by
      unfold cOwn
      split
      · rename_i b2 d2 z
        exact absurd z (h b2 d2)
      · rfl
    rw [e, wo_none, wo_none]
theorem ws_for {gi : Md (List D)} {tg : D → Env → Option Env} {b : Sd} : Ws (sFor gi tg b) ρ R ↔ Wm gi ρ fun ds ρ1 => Ws (forD tg b ds) ρ1 R := by
  unfold Ws Wm sFor
  rw [wo_bind]
theorem ws_mono {s : Sd} {R R' : Fl → Env → Prop} (h : Ws s ρ R) (i : ∀ f ρ', R f ρ' → R' f ρ') : Ws s ρ R' := wo_mono h fun p => i p.1 p.2
theorem for_nil {tg : D → Env → Option Env} {b : Sd} : Ws (forD tg b []) ρ R ↔ R .nx ρ := wo_some
def turnQ (t : Sd) (R : Fl → Env → Prop) : Fl → Env → Prop
  | .nx, ρ => Ws t ρ R
  | .cnt, ρ => Ws t ρ R
  | .brk, ρ => R .nx ρ
  | .ret d, ρ => R (.ret d) ρ
  | .rof d, ρ => R (.rof d) ρ
theorem turn_nx {t : Sd} : turnQ t R .nx ρ ↔ Ws t ρ R := Iff.rfl
theorem turn_cnt {t : Sd} : turnQ t R .cnt ρ ↔ Ws t ρ R := Iff.rfl
theorem turn_brk {t : Sd} : turnQ t R .brk ρ ↔ R .nx ρ := Iff.rfl
theorem turn_ret {t : Sd} {d : D} : turnQ t R (.ret d) ρ ↔ R (.ret d) ρ := Iff.rfl
theorem turn_rof {t : Sd} {d : D} : turnQ t R (.rof d) ρ ↔ R (.rof d) ρ := Iff.rfl
theorem for_cons {tg : D → Env → Option Env} {b : Sd} {d : D} {ds : List D} : Ws (forD tg b (d :: ds)) ρ R ↔ Wo (tg d ρ) fun ρ1 => Ws b ρ1 (turnQ (forD tg b ds) R) := by
  show Wo ((tg d ρ).bind fun ρ1 => (b ρ1).bind _) _ ↔ _
  rw [wo_bind]
  refine Iff.of_eq (congrArg _ (funext fun ρ1 => ?_))
  try dsimp only
  rw [wo_bind]
  unfold Ws
  refine congrArg _ (funext fun p => ?_)
  try dsimp only
  obtain ⟨f, ρ2⟩ := p
  cases f with
  | nx => rfl
  | cnt => rfl
  | ret d => exact propext wo_some
  | rof d => exact propext wo_some
  | brk => exact propext wo_some
theorem wm_lc {vs : List Nat} {gi : Md (List D)} {tg : D → Env → Option Env} {tt : Md Bool} {te : Md D} : Wm (gLc vs gi tg tt te) ρ Q ↔ Wm gi ρ fun ds ρ1 => (ds.length ≤ 16777216 ∧ vs.all (notOwn ρ1) = true) ∧ Wo (lcD vs tg tt te ds (wipeE ρ1 vs)) fun r => Q (.list r.1) (backE ρ1 vs r.2) := by
  unfold Wm gLc
  rw [wo_bind]
  refine Iff.of_eq (congrArg _ (funext fun p => ?_))
  try dsimp only
  by_cases h : p.1.length ≤ 16777216 ∧ vs.all (notOwn p.2) = true
  · rw [if_pos h, wo_bind]
    simp only [wo_some]
    exact propext ⟨fun z => ⟨h, z⟩, fun z => z.2⟩
  · rw [if_neg h, wo_none]
    exact propext ⟨False.elim, fun z => h z.1⟩
theorem lc_nil {vs : List Nat} {tg : D → Env → Option Env} {tt : Md Bool} {te : Md D} {Q : List D × Env → Prop} : Wo (lcD vs tg tt te [] ρ) Q ↔ Q ([], ρ) := wo_some
theorem lc_cons {vs : List Nat} {tg : D → Env → Option Env} {tt : Md Bool} {te : Md D} {d : D} {ds : List D} {Q : List D × Env → Prop} : Wo (lcD vs tg tt te (d :: ds) ρ) Q ↔ Wo (tg d ρ) fun ρ1 => Wm tt ρ1 fun b ρ2 =>
    if b = true then Wm te ρ2 fun y ρ3 => Wo (lcD vs tg tt te ds (wipeE ρ3 vs)) fun r => Q (y :: r.1, r.2) else Wo (lcD vs tg tt te ds (wipeE ρ2 vs)) Q := by
  show Wo ((tg d ρ).bind fun ρ1 => (tt ρ1).bind _) _ ↔ _
  unfold Wm
  simp only [wo_bind, wo_some, wo_ite]
theorem lc_mapA {α : Type} {vs : List Nat} {tg : D → Env → Option Env} {te : Md D} (h f : α → D) {Q : List D × Env → Prop} : ∀ (xs : List α), (∀ x ∈ xs, Wo (tg (h x) ρ) fun ρ1 => Wm te ρ1 fun y ρ2 => y = f x ∧ wipeE ρ2 vs = ρ) → Q (xs.map f, ρ) → Wo (lcD vs tg gTrue te (xs.map h) ρ) Q
  | [], _, q => lc_nil.mpr q
  | d :: ds, hs, q => by
    rw [List.map_cons, lc_cons]
    refine wo_mono (hs d List.mem_cons_self) fun ρ1 h1 => ?_
    rw [wm_true, if_pos rfl]
    refine wo_mono h1 fun p h2 => ?_
    dsimp only at h2 ⊢
    rw [h2.2]
    refine lc_mapA h f (Q := fun r => Q (p.1 :: r.1, r.2)) ds (fun d' hd => hs d' (List.mem_cons_of_mem _ hd)) ?_
    rw [h2.1]
    exact q
theorem wo_runV {N : Nat} {g : Sd} {ds : List D} {Q : D → Prop} : Wo (runV N g ds) Q ↔ Ws g (envV N ds) fun f ρ => Wo (endV (f, ρ)) Q := wo_bind
theorem end_ret {d : D} {Q : D → Prop} : Wo (endV (.ret d, ρ)) Q ↔ Q d := wo_some
theorem end_nx {Q : D → Prop} : Wo (endV (.nx, ρ)) Q ↔ Q .none := wo_some
theorem end_rof {d : D} {Q : D → Prop} : Wo (endF (.rof d, ρ)) Q ↔ Q d := wo_some
theorem end_io {f : Fl} {Q : D × D → Prop} : Wo (endIO (f, ρ)) Q ↔ Wo (ownOf ρ[0]?) fun d => Wo (endV (f, ρ)) fun r => Q (r, d) := by
  unfold endIO
  simp only [wo_bind, wo_some]
theorem ownOf_own {d : D} : ownOf (some (some (.own true d))) = some d := rfl
end
section
variable {i j : Int} {a b : Str} {p q : Bool} {xs ys : List D} {d e : D}
theorem add_ii : addD (.int i) (.int j) = some (.int (i + j)) := rfl
theorem add_ll : addD (.list xs) (.list ys) = if xs.length + ys.length ≤ 16777216 then some (.list (xs ++ ys)) else none := rfl
theorem add_tt : addD (.tuple xs) (.tuple ys) = if xs.length + ys.length ≤ 16777216 then some (.tuple (xs ++ ys)) else none := rfl
theorem add_ss : addD (.str a) (.str b) = if a.length + b.length ≤ 16777216 then some (.str (a ++ b)) else none := rfl
theorem sub_ii : subD (.int i) (.int j) = some (.int (i - j)) := rfl
theorem mul_ii : mulD (.int i) (.int j) = if i.natAbs.log2 + j.natAbs.log2 < 1000000 then some (.int (i * j)) else none := rfl
theorem mulS_ii : mulS (.int i) (.int j) = if -(2 ^ 64) < j ∧ j < 2 ^ 64 then some (.int (i * j)) else none := rfl
theorem mod_ii : modD (.int i) (.int j) = if 0 < j then some (.int (i % j)) else none := rfl
theorem fdiv_ii : fdivD (.int i) (.int j) = if 0 < j ∧ j < 18446744073709551616 then some (.int (i / j)) else none := rfl
theorem neg_i : negD (.int i) = some (.int (-i)) := rfl
theorem le_ii : leD (.int i) (.int j) = some (.bool (decide (i ≤ j))) := rfl
theorem gt_ii : gtD (.int i) (.int j) = some (.bool (decide (j < i))) := rfl
theorem ge_ii : geD (.int i) (.int j) = some (.bool (decide (j ≤ i))) := rfl
theorem eqT_ii : eqT (.int i) (.int j) = some (decide (i = j)) := rfl
theorem eqT_ss : eqT (.str a) (.str b) = some (decide (a = b)) := rfl
theorem eqT_bb : eqT (.bool p) (.bool q) = some (decide (p = q)) := rfl
theorem eqT_nn : eqT .none .none = some true := rfl
theorem ltT_ii : ltT (.int i) (.int j) = some (decide (i < j)) := rfl
theorem ltT_ss : ltT (.str a) (.str b) = some (decide (a.cps.toList < b.cps.toList)) := rfl
theorem wo_eqD {Q : D → Prop} : Wo (eqD d e) Q ↔ Wo (eqT d e) fun b => Q (.bool b) := by
  unfold eqD
  simp only [wo_bind, wo_some]
theorem wo_neD {Q : D → Prop} : Wo (neD d e) Q ↔ Wo (eqT d e) fun b => Q (.bool (!b)) := by
  unfold neD
  simp only [wo_bind, wo_some]
theorem wo_ltD {Q : D → Prop} : Wo (ltD d e) Q ↔ Wo (ltT d e) fun b => Q (.bool b) := by
  unfold ltD
  simp only [wo_bind, wo_some]
theorem wo_inD {Q : D → Prop} : Wo (inD d e) Q ↔ Wo (inT d e) fun b => Q (.bool b) := by
  unfold inD
  simp only [wo_bind, wo_some]
theorem wo_ninD {Q : D → Prop} : Wo (ninD d e) Q ↔ Wo (inT d e) fun b => Q (.bool (!b)) := by
  unfold ninD
  simp only [wo_bind, wo_some]
theorem is_n : isD d .none = some (.bool (isN d)) := by cases d <;> rfl
theorem isnt_n : isntD d .none = some (.bool (!isN d)) := by cases d <;> rfl
theorem is_bb : isD (.bool p) (.bool q) = some (.bool (decide (p = q))) := rfl
theorem isnt_bb : isntD (.bool p) (.bool q) = some (.bool (!decide (p = q))) := rfl
theorem bOf_b : bOf (.bool p) = some p := rfl
theorem iOf_i : iOf (.int i) = some i := rfl
theorem tru_b : truT (.bool p) = some p := rfl
theorem tru_n : truT .none = some false := rfl
theorem tru_i : truT (.int i) = some (i != 0) := rfl
theorem tru_l : truT (.list xs) = some (!xs.isEmpty) := rfl
theorem tru_t : truT (.tuple xs) = some (!xs.isEmpty) := rfl
theorem seq_l : seqOf (.list xs) = some xs := rfl
theorem seq_t : seqOf (.tuple xs) = some xs := rfl
theorem tup_l : tupF [.list xs] = some (.tuple xs) := rfl
theorem tup_t : tupF [.tuple xs] = some (.tuple xs) := rfl
theorem lst_l : lstF [.list xs] = some (.list xs) := rfl
theorem lst_t : lstF [.tuple xs] = some (.list xs) := rfl
theorem len_l : lenF [.list xs] = some (.int xs.length) := rfl
theorem len_t : lenF [.tuple xs] = some (.int xs.length) := rfl
theorem int_i : intF [.int i] = some (.int i) := rfl
theorem int_b : intF [.bool p] = some (.int (if p then 1 else 0)) := rfl
theorem abs_i : absF [.int i] = some (.int (if i < 0 then -i else i)) := rfl
theorem max_ii : maxF [.int i, .int j] = some (.int (if j > i then j else i)) := rfl
theorem min_ii : minF [.int i, .int j] = some (.int (if j < i then j else i)) := rfl
theorem ix_li : ixD (.list xs) (.int i) = ixA xs i := rfl
theorem ix_ti : ixD (.tuple xs) (.int i) = ixA xs i := rfl
theorem cut_l {l h : Option Int} : cutD (.list xs) l h = some (.list (cutA xs l h)) := rfl
theorem cut_t {l h : Option Int} : cutD (.tuple xs) l h = some (.tuple (cutA xs l h)) := rfl
theorem flat_i : flatD (.int i) = true := rfl
theorem flat_b : flatD (.bool p) = true := rfl
theorem flat_s : flatD (.str a) = true := rfl
theorem ix0 {α : Type} {x : α} {xs : List α} : ixA (x :: xs) 0 = some x := rfl
theorem ix1 {α : Type} {x y : α} {xs : List α} : ixA (x :: y :: xs) 1 = some y := rfl
theorem ix2 {α : Type} {x y z : α} {xs : List α} : ixA (x :: y :: z :: xs) 2 = some z := rfl
theorem isi_1 {T : String} {Q : D → Prop} : Wo (isiF T [d]) Q ↔ tyOk d = true ∧ Wo (L2.kitB (tyD d) T) fun b => Q (.bool b) := by
  show Wo (if tyOk d = true then (L2.kitB (tyD d) T).bind fun b => some (.bool b) else none) Q ↔ _
  by_cases h : tyOk d = true
  · simp only [h, ↓reduceIte, wo_bind, wo_some, true_and]
  · simp only [h, ↓reduceIte, wo_none, false_and, Bool.false_eq_true]
theorem tyOk_n : tyOk .none = true := rfl
theorem tyOk_b : tyOk (.bool p) = true := rfl
theorem tyOk_i : tyOk (.int i) = true := rfl
theorem tyOk_s : tyOk (.str a) = true := rfl
theorem tyOk_l : tyOk (.list xs) = true := rfl
theorem tyOk_t : tyOk (.tuple xs) = true := rfl
theorem k_nb : L2.kitB "NoneType" "bool" = some false := by decide +kernel
theorem k_bb : L2.kitB "bool" "bool" = some true := by decide +kernel
theorem k_ib : L2.kitB "int" "bool" = some false := by decide +kernel
theorem k_sb : L2.kitB "str" "bool" = some false := by decide +kernel
theorem k_ni : L2.kitB "NoneType" "int" = some false := by decide +kernel
theorem k_bi : L2.kitB "bool" "int" = some true := by decide +kernel
theorem k_ii : L2.kitB "int" "int" = some true := by decide +kernel
theorem k_si : L2.kitB "str" "int" = some false := by decide +kernel
theorem k_ns : L2.kitB "NoneType" "str" = some false := by decide +kernel
theorem k_bs : L2.kitB "bool" "str" = some false := by decide +kernel
theorem k_is : L2.kitB "int" "str" = some false := by decide +kernel
theorem k_ss : L2.kitB "str" "str" = some true := by decide +kernel
theorem k_ll : L2.kitB "list" "list" = some true := by decide +kernel
theorem k_tt : L2.kitB "tuple" "tuple" = some true := by decide +kernel
theorem ty_n : tyD .none = "NoneType" := rfl
theorem ty_b : tyD (.bool p) = "bool" := rfl
theorem ty_i : tyD (.int i) = "int" := rfl
theorem ty_s : tyD (.str a) = "str" := rfl
theorem ty_l : tyD (.list xs) = "list" := rfl
theorem ty_t : tyD (.tuple xs) = "tuple" := rfl
theorem wm_enum {a : Md (List D)} {ρ : Env} {Q : List D → Env → Prop} : Wm (gEnum a) ρ Q ↔ Wm a ρ fun x ρ1 => Wo (enumOf x) fun ds => Q ds ρ1 := by
  show Wo ((a ρ).bind fun p => (enumOf p.1).bind fun ds => some (ds, p.2)) _ ↔ _
  unfold Wm
  simp only [wo_bind, wo_some]
theorem enum_l : enumOf [.list xs] = some (enumL 0 xs) := rfl
theorem enum_t : enumOf [.tuple xs] = some (enumL 0 xs) := rfl
theorem enumL_nil {n : Nat} : enumL n [] = [] := rfl
theorem enumL_cons {n : Nat} : enumL n (d :: xs) = .tuple [.int n, d] :: enumL (n + 1) xs := rfl
theorem wm_dic {gs : List (Md D × Md D)} {ρ : Env} {Q : D → Env → Prop} : Wm (gDic gs) ρ Q ↔ Wm (gKV gs) ρ fun es ρ1 => keysOk es = true ∧ Q (PyData.dict es) ρ1 := by
  show Wo ((gKV gs ρ).bind fun p => if keysOk p.1 = true then some (PyData.dict p.1, p.2) else none) _ ↔ _
  unfold Wm
  rw [wo_bind]
  refine Iff.of_eq (congrArg _ (funext fun p => ?_))
  by_cases h : keysOk p.1 = true
  · simp only [h, ↓reduceIte, wo_some, true_and]
  · simp only [h, ↓reduceIte, wo_none, false_and, Bool.false_eq_true]
theorem wm_kvn {ρ : Env} {Q : List (D × D) → Env → Prop} : Wm (gKV []) ρ Q ↔ Q [] ρ := wo_some
theorem wm_kvc {gk gv : Md D} {r : List (Md D × Md D)} {ρ : Env} {Q : List (D × D) → Env → Prop} : Wm (gKV ((gk, gv) :: r)) ρ Q ↔ Wm gk ρ fun k ρ1 => Wm gv ρ1 fun v ρ2 => Wm (gKV r) ρ2 fun es ρ3 => Q ((k, v) :: es) ρ3 := by
  show Wo ((gk ρ).bind fun p => (gv p.2).bind fun q => (gKV r q.2).bind fun z => some ((p.1, q.1) :: z.1, z.2)) _ ↔ _
  unfold Wm
  simp only [wo_bind, wo_some]
theorem seq_s : seqOf (.str a) = some (signsL a) := rfl
theorem mulT_si : mulT (.str a) (.int i) = if 0 ≤ i ∧ i ≤ 1000 ∧ a.length ≤ 1000 then some (.str (Txt.mul a i)) else none := rfl
theorem len_s : lenF [.str a] = if a.length ≤ 16777216 then some (.int a.length) else none := rfl
theorem ord_c {c : Nat} : ordF [.str ⟨#[c]⟩] = some (.int c) := rfl
theorem str_i : strF [.int i] = if i.natAbs.log2 < 1920 then some (.str (toString i)) else none := rfl
theorem k_lb : L2.kitB "list" "bool" = some false := by decide +kernel
theorem k_li : L2.kitB "list" "int" = some false := by decide +kernel
theorem k_ls : L2.kitB "list" "str" = some false := by decide +kernel
theorem k_tb : L2.kitB "tuple" "bool" = some false := by decide +kernel
theorem k_ti : L2.kitB "tuple" "int" = some false := by decide +kernel
theorem k_ts : L2.kitB "tuple" "str" = some false := by decide +kernel
theorem k_db : L2.kitB "dict" "bool" = some false := by decide +kernel
theorem k_di : L2.kitB "dict" "int" = some false := by decide +kernel
theorem k_ds : L2.kitB "dict" "str" = some false := by decide +kernel
theorem k_lt : L2.kitB "list" "tuple" = some false := by decide +kernel
theorem k_tl : L2.kitB "tuple" "list" = some false := by decide +kernel
theorem ty_d {es : List (D × D)} : tyD (.dict es) = "dict" := rfl
theorem wm_reve {a : Md D} {ρ : Env} {Q : List D → Env → Prop} : Wm (gReve a) ρ Q ↔ Wm a ρ fun x ρ1 => Wo (revOf x) fun ds => Q ds ρ1 := by
  show Wo ((a ρ).bind fun p => (revOf p.1).bind fun ds => some (ds, p.2)) _ ↔ _
  unfold Wm
  simp only [wo_bind, wo_some]
theorem rev_l : revOf (.list xs) = some xs.reverse := rfl
theorem rev_t : revOf (.tuple xs) = some xs.reverse := rfl
theorem wm_opBL {f : D → D → Option D} {i : Nat} {g : Md D} {ρ : Env} {Q : D → Env → Prop} : Wm (gOpBL f i g) ρ Q ↔ Wo (peekOf ρ[i]?) fun _ => Wm g ρ fun x ρ1 => Wo (peekOf ρ1[i]?) fun d => Wo (f d x) fun r => flatD r = true ∧ Q r ρ1 := by
  have e : ∀ ρ : Env, peek ρ i = peekOf ρ[i]? := fun ρ => rfl
  show Wo ((peek ρ i).bind fun _ => (g ρ).bind fun p => (peek p.2 i).bind fun d => (f d p.1).bind fun r => if flatD r = true then some (r, p.2) else none) _ ↔ _
  unfold Wm
  simp only [wo_bind, e]
  refine Iff.of_eq (congrArg _ (funext fun _ => congrArg _ (funext fun p => congrArg _ (funext fun d => congrArg _ (funext fun r => ?_)))))
  by_cases h : flatD r = true
  · simp only [h, ↓reduceIte, wo_some, true_and]
  · simp only [h, ↓reduceIte, wo_none, false_and, Bool.false_eq_true]
theorem repr_l : reprF [.list xs] = if reprOk (.list xs) = true then some (.str (PyData.list xs).shown) else none := rfl
theorem sort_l : sortF [.list xs] = if DnSo.sortOk xs = true then some (.list (xs.mergeSort DnSo.leD3)) else none := rfl
theorem sum_l : sumF [.list xs] = (numsOf xs).bind fun ns => some (.int ns.sum) := rfl
/-- those that pass a test -/
theorem lc_filterA {α : Type} {vs : List Nat} {tg : D → Env → Option Env} {tt : Md Bool} {te : Md D} (h f : α → D) (p : α → Bool) {ρ : Env} {Q : List D × Env → Prop} : ∀ (xs : List α), (∀ x ∈ xs, Wo (tg (h x) ρ) fun ρ1 => Wm tt ρ1 fun b ρ2 => b = p x ∧ (b = true → Wm te ρ2 fun y ρ3 => y = f x ∧ wipeE ρ3 vs = ρ) ∧ (b = false → wipeE ρ2 vs = ρ)) → Q ((xs.filter p).map f, ρ) → Wo (lcD vs tg tt te (xs.map h) ρ) Q
  | [], _, q => lc_nil.mpr q
  | d :: ds, hs, q => by
    rw [List.map_cons, lc_cons]
    refine wo_mono (hs d List.mem_cons_self) fun ρ1 h1 => ?_
    refine wo_mono h1 fun b h2 => ?_
    obtain ⟨h3, h4, h5⟩ := h2
    rw [List.filter_cons] at q
    rw [← h3] at q
    cases hb : b.1 with
    | true =>
      rw [hb] at q
      rw [if_pos rfl] at q ⊢
      refine wo_mono (h4 hb) fun y h6 => ?_
      dsimp only at h6 ⊢
      rw [h6.2]
      refine lc_filterA h f p (Q := fun r => Q (y.1 :: r.1, r.2)) ds (fun d' hd => hs d' (List.mem_cons_of_mem _ hd)) ?_
      rw [h6.1]
      exact q
    | false =>
      rw [hb] at q
      rw [if_neg (by decide)] at q ⊢
      rw [h5 hb]
      exact lc_filterA h f p ds (fun d' hd => hs d' (List.mem_cons_of_mem _ hd)) q
end
end Dm
set_option maxHeartbeats 2000000
namespace Dm
open PySem Dn DnSo
def dOwn : Option (Option Cell) → Option (Bool × List (D × D))
  | some (some (.own b (.dict es))) => some (b, es)
  | _ => none
def lOwn : Option (Option Cell) → Option (Bool × List D)
  | some (some (.own b (.list ds))) => some (b, ds)
  | _ => none
section
variable {ρ : Env} {Q : D → Env → Prop} {R : Fl → Env → Prop} {i : Nat}
theorem dOwn_own {b : Bool} {es : List (D × D)} : dOwn (some (some (.own b (.dict es)))) = some (b, es) := rfl
theorem lOwn_own {b : Bool} {ds : List D} : lOwn (some (some (.own b (.list ds)))) = some (b, ds) := rfl
theorem dic_cases (o : Option (Option Cell)) : (∃ b es, o = some (some (.own b (.dict es)))) ∨ (dOwn o = none ∧ ∀ b es, o ≠ some (some (.own b (.dict es)))) := by
  rcases o with _ | _ | d | ⟨b, d⟩
  · exact .inr ⟨rfl, fun _ _ h => by cases h⟩
  · exact .inr ⟨rfl, fun _ _ h => by cases h⟩
  · exact .inr ⟨rfl, fun _ _ h => by cases h⟩
  · cases d with
    | dict es => exact .inl ⟨b, es, rfl⟩
    | _ => exact .inr ⟨rfl, fun _ _ h => by cases h⟩
theorem lst_cases (o : Option (Option Cell)) : (∃ b ds, o = some (some (.own b (.list ds)))) ∨ (lOwn o = none ∧ ∀ b ds, o ≠ some (some (.own b (.list ds)))) := by
  rcases o with _ | _ | d | ⟨b, d⟩
  · exact .inr ⟨rfl, fun _ _ h => by cases h⟩
  · exact .inr ⟨rfl, fun _ _ h => by cases h⟩
  · exact .inr ⟨rfl, fun _ _ h => by cases h⟩
  · cases d with
    | list ds => exact .inl ⟨b, ds, rfl⟩
    | _ => exact .inr ⟨rfl, fun _ _ h => by cases h⟩
theorem own_cases (o : Option (Option Cell)) : (∃ b d, o = some (some (.own b d))) ∨ (cOwn o = none ∧ ∀ b d, o ≠ some (some (.own b d))) := by
  rcases o with _ | _ | d | ⟨b, d⟩
  · exact .inr ⟨rfl, fun _ _ h => by cases h⟩
  · exact .inr ⟨rfl, fun _ _ h => by cases h⟩
  · exact .inr ⟨rfl, fun _ _ h => by cases h⟩
  · exact .inl ⟨b, d, rfl⟩
def putO (es : List (D × D)) (k v : D) : Option (List (D × D)) := if keyTup k = true ∧ (nkD k).isSome = true ∧ es.length < 16777216 then some (putD es k v) else none
def atO (es : List (D × D)) (k : D) : Option D := if keyTup k = true ∧ (nkD k).isSome = true then atD es k else none
def getO (es : List (D × D)) (k x : D) : Option D := if keyTup k = true ∧ (nkD k).isSome = true then some ((atD es k).getD x) else none
def srtO (es : List (D × D)) : Option D := if sortOk (es.map (·.1)) = true then some (.list ((es.map (·.1)).mergeSort leD3)) else none
theorem wm_newD : Wm gNewD ρ Q ↔ Q (.dict []) ρ := wo_some
theorem ws_setK {gv gk : Md D} : Ws (sSetK i gv gk) ρ R ↔ Wm gv ρ fun v ρ1 => Wo (cOwn ρ1[i]?) fun _ => Wm gk ρ1 fun k ρ2 => Wo (dOwn ρ2[i]?) fun c => Wo (putO c.2 k v) fun es => R .nx (ρ2.set i (some (.own c.1 (.dict es)))) := by
  unfold Ws Wm sSetK
  rw [wo_bind]
  refine Iff.of_eq (congrArg _ (funext fun p => ?_))
  try dsimp only
  rcases own_cases p.2[i]? with ⟨b, d, h⟩ | ⟨h, hn⟩
  · split
    · rw [h, cOwn_own, wo_some, wo_bind]
      refine congrArg _ (funext fun q => ?_)
      try dsimp only
      rcases dic_cases q.2[i]? with ⟨b, es, h2⟩ | ⟨h2, hn⟩
      · split
        · rename_i e
          rw [h2] at e
          cases e
          rw [h2, dOwn_own, wo_some]
          unfold putO
          simp only [wo_ite, wo_some, wo_none]
        · rename_i e
          exact absurd h2 (e _ _)
      · split
        · rename_i e
          exact absurd e (hn _ _)
        · rw [h2, wo_none, wo_none]
    · rename_i e
      exact absurd h (e _ _)
  · split
    · rename_i e
      exact absurd e (hn _ _)
    · rw [h, wo_none, wo_none]
theorem wm_get {gk gx : Md D} : Wm (gGet i gk gx) ρ Q ↔ Wo (dOwn ρ[i]?) fun _ => Wm gk ρ fun k ρ1 => Wm gx ρ1 fun x ρ2 => Wo (dOwn ρ2[i]?) fun c => Wo (getO c.2 k x) fun r => Q r ρ2 := by
  unfold Wm gGet
  rcases dic_cases ρ[i]? with ⟨b, es, h⟩ | ⟨h, hn⟩
  · split
    · rw [h, dOwn_own, wo_some, wo_bind]
      refine Iff.of_eq (congrArg _ (funext fun p => ?_))
      try dsimp only
      rw [wo_bind]
      refine congrArg _ (funext fun q => ?_)
      try dsimp only
      rcases dic_cases q.2[i]? with ⟨b, es, h2⟩ | ⟨h2, hn⟩
      · split
        · rename_i e
          rw [h2] at e
          cases e
          rw [h2, dOwn_own, wo_some]
          unfold getO
          simp only [wo_ite, wo_some, wo_none]
        · rename_i e
          exact absurd h2 (e _ _)
      · split
        · rename_i e
          exact absurd e (hn _ _)
        · rw [h2, wo_none, wo_none]
    · rename_i e
      exact absurd h (e _ _)
  · split
    · rename_i e
      exact absurd e (hn _ _)
    · rw [h, wo_none, wo_none]
theorem wm_ixK {gk : Md D} : Wm (gIxK i gk) ρ Q ↔ Wo (dOwn ρ[i]?) fun _ => Wm gk ρ fun k ρ1 => Wo (dOwn ρ1[i]?) fun c => Wo (atO c.2 k) fun r => Q r ρ1 := by
  unfold Wm gIxK
  rcases dic_cases ρ[i]? with ⟨b, es, h⟩ | ⟨h, hn⟩
  · split
    · rw [h, dOwn_own, wo_some, wo_bind]
      refine Iff.of_eq (congrArg _ (funext fun q => ?_))
      try dsimp only
      rcases dic_cases q.2[i]? with ⟨b, es, h2⟩ | ⟨h2, hn⟩
      · split
        · rename_i e
          rw [h2] at e
          cases e
          rw [h2, dOwn_own, wo_some]
          unfold atO
          simp only [wo_ite, wo_bind, wo_some, wo_none]
        · rename_i e
          exact absurd h2 (e _ _)
      · split
        · rename_i e
          exact absurd e (hn _ _)
        · rw [h2, wo_none, wo_none]
    · rename_i e
      exact absurd h (e _ _)
  · split
    · rename_i e
      exact absurd e (hn _ _)
    · rw [h, wo_none, wo_none]
theorem wm_sortN : Wm (gSortN i) ρ Q ↔ Wo (dOwn ρ[i]?) fun c => Wo (srtO c.2) fun r => Q r ρ := by
  unfold Wm gSortN
  rcases dic_cases ρ[i]? with ⟨b, es, h⟩ | ⟨h, hn⟩
  · split
    · rename_i e
      rw [h] at e
      cases e
      rw [h, dOwn_own, wo_some]
      unfold srtO
      simp only [wo_ite, wo_some, wo_none]
    · rename_i e
      exact absurd h (e _ _)
  · split
    · rename_i e
      exact absurd e (hn _ _)
    · rw [h, wo_none, wo_none]
theorem ws_ext {g : Md D} : Ws (sExt i g) ρ R ↔ Wo (lOwn ρ[i]?) fun _ => Wm g ρ fun d ρ1 => Wo (lOwn ρ1[i]?) fun c => Wo (lsD d) fun es => c.2.length + es.length ≤ 16777216 ∧ R .nx (ρ1.set i (some (.own c.1 (.list (c.2 ++ es))))) := by
  unfold Ws Wm sExt
  rcases lst_cases ρ[i]? with ⟨b, es, h⟩ | ⟨h, hn⟩
  · split
    · rw [h, lOwn_own, wo_some, wo_bind]
      refine Iff.of_eq (congrArg _ (funext fun q => ?_))
      try dsimp only
      rcases lst_cases q.2[i]? with ⟨b, es, h2⟩ | ⟨h2, hn⟩
      · split
        · rename_i e
          rw [h2] at e
          cases e
          rw [h2, lOwn_own, wo_some, wo_bind]
          refine congrArg _ (funext fun fs => ?_)
          try dsimp only
          rw [wo_ite, wo_some, wo_none]
          by_cases z : es.length + fs.length ≤ 16777216
          · rw [if_pos z]
            simp [z]
          · rw [if_neg z]
            simp [z]
        · rename_i e
          exact absurd h2 (e _ _)
      · split
        · rename_i e
          exact absurd e (hn _ _)
        · rw [h2, wo_none, wo_none]
    · rename_i e
      exact absurd h (e _ _)
  · split
    · rename_i e
      exact absurd e (hn _ _)
    · rw [h, wo_none, wo_none]
/-- a loop over items drawn by h: what holds ahead of each, what is asked of a turn -/
def stepQ (I : Env → Prop) (R : Fl → Env → Prop) : Fl → Env → Prop
  | .nx, ρ => I ρ
  | .cnt, ρ => I ρ
  | .brk, ρ => R .nx ρ
  | .ret d, ρ => R (.ret d) ρ
  | .rof d, ρ => R (.rof d) ρ
theorem step_nx {I : Env → Prop} : stepQ I R .nx ρ ↔ I ρ := Iff.rfl
theorem step_cnt {I : Env → Prop} : stepQ I R .cnt ρ ↔ I ρ := Iff.rfl
theorem step_brk {I : Env → Prop} : stepQ I R .brk ρ ↔ R .nx ρ := Iff.rfl
theorem step_ret {I : Env → Prop} {d : D} : stepQ I R (.ret d) ρ ↔ R (.ret d) ρ := Iff.rfl
theorem step_rof {I : Env → Prop} {d : D} : stepQ I R (.rof d) ρ ↔ R (.rof d) ρ := Iff.rfl
theorem for_go {α : Type} (h : α → D) {tg : D → Env → Option Env} {b : Sd} (I : List α → Env → Prop) : ∀ (xs p : List α) (ρ : Env), I p ρ →
    (∀ (q : List α) (x : α) (r : List α) (ρ : Env), p ++ xs = q ++ x :: r → I q ρ → Wo (tg (h x) ρ) fun ρ1 => Ws b ρ1 (stepQ (I (q ++ [x])) R)) →
    (∀ ρ', I (p ++ xs) ρ' → R .nx ρ') → Ws (forD tg b (xs.map h)) ρ R
  | [], p, ρ, h0, _, fin => for_nil.mpr (fin ρ (by rw [List.append_nil]; exact h0))
  | x :: xs, p, ρ, h0, st, fin => by
    rw [List.map_cons, for_cons]
    refine wo_mono (st p x xs ρ rfl h0) fun ρ1 h1 => ws_mono h1 fun f ρ2 h2 => ?_
    have go : I (p ++ [x]) ρ2 → Ws (forD tg b (xs.map h)) ρ2 R := fun h3 => for_go h I xs (p ++ [x]) ρ2 h3 (fun q y r ρ' e => st q y r ρ' (by rw [← e]; simp)) fun ρ' h4 => fin ρ' (by simpa using h4)
    cases f with
    | nx => exact go h2
    | cnt => exact go h2
    | brk => exact h2
    | ret d => exact h2
    | rof d => exact h2
theorem ws_forA {α : Type} (h : α → D) {xs : List α} {tg : D → Env → Option Env} {b : Sd} (I : List α → Env → Prop) (h0 : I [] ρ)
    (st : ∀ (q : List α) (x : α) (r : List α) (ρ : Env), xs = q ++ x :: r → I q ρ → Wo (tg (h x) ρ) fun ρ1 => Ws b ρ1 (stepQ (I (q ++ [x])) R))
    (fin : ∀ ρ', I xs ρ' → R .nx ρ') : Ws (forD tg b (xs.map h)) ρ R := for_go h I xs [] ρ h0 st fin
theorem rng_map (n : Nat) : rngL 0 n = (List.range n).map fun i : Nat => PyData.int i := by
  unfold rngL
  exact List.map_congr_left fun i _ => by rw [Int.zero_add]
theorem rng_split {n i : Nat} {p r : List Nat} (e : List.range n = p ++ i :: r) : p.length = i ∧ i < n := by
  have hl := congrArg List.length e
  rw [List.length_range, List.length_append, List.length_cons] at hl
  have h1 : (List.range n)[p.length]? = some i := by rw [e]; simp
  rw [List.getElem?_range (by omega)] at h1
  have := Option.some.inj h1
  omega
theorem lsD_list {ds : List D} : lsD (.list ds) = some ds := rfl
end
end Dm
set_option maxHeartbeats 2000000
namespace Dm
open PySem Dn DnSo
section
variable {ρ : Env} {Q : D → Env → Prop} {R : Fl → Env → Prop} {i : Nat}
theorem empty_own : emptyOwn (some (some (.own false (.dict [])))) = true := rfl
theorem ws_grp {p : Nat} {gi : Md (List D)} {gt : D → Env → Option Env} {g0 gk gx : Md D} : Ws (sGrp i gi gt p g0 gk gx) ρ R ↔ Wm gi ρ fun ds ρ1 => emptyOwn ρ1[i]? = true ∧ Wo (grpD gt p g0 gk gx ds [] (ρ1.set i none)) fun r => Wo (canSet r.2[i]?) fun _ => R .nx (r.2.set i (some (.val (.dict r.1)))) := by
  unfold Ws Wm sGrp
  rw [wo_bind]
  refine Iff.of_eq (congrArg _ (funext fun q => ?_))
  try dsimp only
  by_cases h : emptyOwn q.2[i]? = true
  · rw [if_pos h]
    simp only [wo_bind, wo_some, setC_eq, h, true_and]
  · rw [if_neg h, wo_none]
    simp [h]
theorem wm_getD {go gk gx : Md D} : Wm (gGetD go gk gx) ρ Q ↔ Wm go ρ fun o ρ1 => Wm gk ρ1 fun k ρ2 => Wm gx ρ2 fun x ρ3 => Wo (getG o k x) fun r => Q r ρ3 := by
  unfold Wm gGetD
  simp only [wo_bind, wo_some]
theorem wm_ind {go gx : Md D} : Wm (gInd go gx) ρ Q ↔ Wm go ρ fun o ρ1 => Wm gx ρ1 fun x ρ2 => Wo (indF o x) fun r => Q r ρ2 := by
  unfold Wm gInd
  simp only [wo_bind, wo_some]
end
theorem add2_ll {xs ys : List D} : addL2 (.list xs) (.list ys) = if xs.length + ys.length ≤ 16777216 then some (.list (xs ++ ys)) else none := rfl
theorem three_c {a b c : D} : three [a, b, c] = some (a, b, c) := rfl
theorem ws_par3 {ρ : Env} {R : Fl → Env → Prop} {i j l : Nat} {gs : Md (List D)} : Ws (sPar3 i j l gs) ρ R ↔ Wm gs ρ fun ds ρ0 => Wo (three ds) fun t => Wo (canSet ρ0[i]?) fun _ => Wo (canSet (ρ0.set i (some (.val t.1)))[j]?) fun _ => Wo (canSet ((ρ0.set i (some (.val t.1))).set j (some (.val t.2.1)))[l]?) fun _ => R .nx (((ρ0.set i (some (.val t.1))).set j (some (.val t.2.1))).set l (some (.val t.2.2))) := by
  unfold Ws Wm sPar3
  simp only [wo_bind, wo_some, setC_eq]
theorem lOwnD_own {b : Bool} {ds : List D} : lOwnD (some (some (.own b (.list ds)))) = some ds := rfl
theorem wm_lcW {ρ : Env} {Q : D → Env → Prop} {i0 : Nat} {vs : List Nat} {gt : D → Env → Option Env} {gc : Md Bool} {ge : Md D} : Wm (gLcW i0 vs gt gc ge) ρ Q ↔ Wo (lOwnD ρ[i0]?) fun ds => (ds.length ≤ 16777216 ∧ vs.all (notOwn ρ) = true ∧ i0 ∉ vs) ∧ Wo (lcW i0 vs gt gc ge ds.length 0 (wipeE ρ vs)) fun r => Q (.list r.1) (backE ρ vs r.2) := by
  unfold Wm gLcW
  rw [wo_bind]
  refine Iff.of_eq (congrArg _ (funext fun ds => ?_))
  by_cases h : ds.length ≤ 16777216 ∧ vs.all (notOwn ρ) = true ∧ i0 ∉ vs
  · rw [if_pos h, wo_bind]
    simp only [wo_some, h, true_and]
    simp
  · rw [if_neg h, wo_none]
    simp only [h, false_and]
theorem ix3 {a b c d : D} {r : List D} : ixA (a :: b :: c :: d :: r) 3 = some d := rfl
theorem ix4 {a b c d e : D} {r : List D} : ixA (a :: b :: c :: d :: e :: r) 4 = some e := rfl
theorem ix_m2 (a b c : D) : ixA [a, b, c] (-2) = some b := rfl
theorem ix_m1 (a b c : D) : ixA [a, b, c] (-1) = some c := rfl
theorem ix_p2 (a b : D) : ixA [a, b] (-2) = some a := rfl
theorem ix_p1 (a b : D) : ixA [a, b] (-1) = some b := rfl
end Dm
set_option maxHeartbeats 4000000
namespace Lw
open PySem Dn Dm
theorem wo_ix {xs : List D} {i : Int} {Q : D → Prop} (h0 : 0 ≤ i) (h1 : i < xs.length) (q : ∀ x ∈ xs, Q x) : Wo (ixA xs i) Q := by
  unfold ixA
  rw [if_pos h0]
  have hl : i.toNat < xs.length := by omega
  rw [List.getElem?_eq_getElem hl, wo_some]
  exact q _ (List.getElem_mem hl)
/-- a value -/
def gv (d : D) : Prop := flatD d = true ∧ SeqAt.shaped d = true
theorem gv_none : gv .none := ⟨rfl, by decide⟩
theorem gv_bool (b : Bool) : gv (.bool b) := ⟨rfl, by cases b <;> decide⟩
theorem gv_int (i : Int) : gv (.int i) := ⟨rfl, by simp [SeqAt.shaped, PyData.canLay0, PyData.depth]⟩
def rk : D → Int
  | .none => 0
  | .bool b => 1 + (if b then 1 else 0)
  | .int _ => 3
  | _ => 4
def ltV (a b : D) : Bool := if rk a ≠ rk b then decide (rk a < rk b) else match a, b with
  | .int i, .int j => decide (i < j)
  | .str x, .str y => decide (x.cps.toList < y.cps.toList)
  | _, _ => false
def vo : D → D
  | .none => .tuple [.int 0, .int 0]
  | .bool b => .tuple [.int 1, .int (if b then 1 else 0)]
  | .int i => .tuple [.int 2, .int i]
  | d => .tuple [.int 3, d]
theorem gv_cases {d : D} (h : gv d) : d = .none ∨ (∃ b, d = .bool b) ∨ (∃ i, d = .int i) ∨ ∃ s, d = .str s := by
  cases d with
  | none => exact .inl rfl
  | bool b => exact .inr (.inl ⟨b, rfl⟩)
  | int i => exact .inr (.inr (.inl ⟨i, rfl⟩))
  | str s => exact .inr (.inr (.inr ⟨s, rfl⟩))
  | list _ => cases h.1
  | tuple _ => cases h.1
  | dict _ => cases h.1
theorem ltV_irr {a : D} (ha : gv a) : ltV a a = false := by
  unfold ltV
  rcases gv_cases ha with rfl | ⟨p, rfl⟩ | ⟨i, rfl⟩ | ⟨s, rfl⟩ <;> simp
theorem gv5 {d : D} (h : gv d) : d = .none ∨ d = .bool true ∨ d = .bool false ∨ (∃ i, d = .int i) ∨ ∃ s, d = .str s := by
  rcases gv_cases h with rfl | ⟨b, rfl⟩ | h | h
  · exact .inl rfl
  · cases b
    · exact .inr (.inr (.inl rfl))
    · exact .inr (.inl rfl)
  · exact .inr (.inr (.inr (.inl h)))
  · exact .inr (.inr (.inr (.inr h)))
theorem str_tri (s t : Str) : (s == t) = (!decide (s.cps.toList < t.cps.toList) && !decide (t.cps.toList < s.cps.toList)) := by
  by_cases h : s = t
  · subst h
    have : ¬ (s.cps.toList < s.cps.toList) := List.lt_irrefl _
    simp only [beq_self_eq_true, this, decide_false, Bool.not_false, Bool.and_self]
  · have h1 : (s == t) = false := by simpa using h
    rw [h1]
    by_cases h2 : s.cps.toList < t.cps.toList
    · simp only [h2, decide_true, Bool.not_true, Bool.false_and]
    · by_cases h3 : t.cps.toList < s.cps.toList
      · simp only [h3, decide_true, Bool.not_true, Bool.and_false]
      · exact absurd (PySem.W.str_of_cps (List.le_antisymm (List.not_lt.mp h3) (List.not_lt.mp h2))) h
/-- the same -/
theorem eqv_vo {a b : D} (ha : gv a) (hb : gv b) : PyData.eqv (vo a) (vo b) = (!ltV a b && !ltV b a) := by
  rcases gv5 ha with rfl | rfl | rfl | ⟨i, rfl⟩ | ⟨s, rfl⟩ <;> rcases gv5 hb with rfl | rfl | rfl | ⟨j, rfl⟩ | ⟨t, rfl⟩ <;> simp only [vo, PyData.eqv, PyData.eqvAll, ltV, rk] <;> first | rfl | skip
  · simp only [ne_eq, not_true_eq_false, ↓reduceIte, Bool.and_true, beq_self_eq_true, Bool.true_and]
    rw [Bool.eq_iff_iff]
    simp
    omega
  · simp only [ne_eq, not_true_eq_false, ↓reduceIte, Bool.and_true, beq_self_eq_true, Bool.true_and]
    exact str_tri s t
theorem ltB_vo {a b : D} (ha : gv a) (hb : gv b) (h : PyData.eqv (vo a) (vo b) = false) : DnLt.ltB (vo a) (vo b) = some (ltV a b) := by
  rcases gv5 ha with rfl | rfl | rfl | ⟨i, rfl⟩ | ⟨s, rfl⟩ <;> rcases gv5 hb with rfl | rfl | rfl | ⟨j, rfl⟩ | ⟨t, rfl⟩ <;> simp only [vo, PyData.eqv, PyData.eqvAll, ltV, rk, DnLt.ltB, DnLt.ltA] at h ⊢ <;> first | rfl | (exact absurd h (by decide)) | skip
  · simp only [beq_self_eq_true, ↓reduceIte, ne_eq, not_true_eq_false, Bool.and_true, Bool.true_and] at h ⊢
    exact if_neg (by rw [h]; decide)
  · simp only [beq_self_eq_true, ↓reduceIte, ne_eq, not_true_eq_false, Bool.and_true, Bool.true_and] at h ⊢
    exact if_neg (by rw [h]; decide)
/-- rows -/
def ltR : List D → List D → Bool
  | [], [] => false
  | [], _ :: _ => true
  | _ :: _, [] => false
  | x :: xs, y :: ys => if ltV x y = true then true else if ltV y x = true then false else ltR xs ys
theorem ltA_vo : ∀ {xs ys : List D}, (∀ v ∈ xs, gv v) → (∀ v ∈ ys, gv v) → DnLt.ltA (xs.map vo) (ys.map vo) = some (ltR xs ys)
  | [], [], _, _ => rfl
  | [], _ :: _, _, _ => rfl
  | _ :: _, [], _, _ => rfl
  | x :: xs, y :: ys, hx, hy => by
    have gx := hx x List.mem_cons_self
    have gy := hy y List.mem_cons_self
    have ih := ltA_vo (xs := xs) (ys := ys) (fun v hv => hx v (List.mem_cons_of_mem _ hv)) fun v hv => hy v (List.mem_cons_of_mem _ hv)
    rw [List.map_cons, List.map_cons, DnLt.ltA, ltR, ih]
    have e := eqv_vo gx gy
    cases h : PyData.eqv (vo x) (vo y) with
    | true =>
      rw [h] at e
      have e2 : ltV x y = false ∧ ltV y x = false := by simpa using e.symm
      simp [e2.1, e2.2]
    | false =>
      rw [h] at e
      rw [if_neg (by decide), ltB_vo gx gy h]
      cases h1 : ltV x y with
      | true => simp
      | false =>
        rw [h1] at e
        have e2 : ltV y x = true := by simpa using e.symm
        simp [e2]
theorem eqvAll_vo : ∀ {xs ys : List D}, (∀ v ∈ xs, gv v) → (∀ v ∈ ys, gv v) → PyData.eqvAll (xs.map vo) (ys.map vo) = (!ltR xs ys && !ltR ys xs)
  | [], [], _, _ => by simp [PyData.eqvAll, ltR]
  | [], _ :: _, _, _ => by simp [PyData.eqvAll, ltR]
  | _ :: _, [], _, _ => by simp [PyData.eqvAll, ltR]
  | x :: xs, y :: ys, hx, hy => by
    have gx := hx x List.mem_cons_self
    have gy := hy y List.mem_cons_self
    have ih := eqvAll_vo (xs := xs) (ys := ys) (fun v hv => hx v (List.mem_cons_of_mem _ hv)) fun v hv => hy v (List.mem_cons_of_mem _ hv)
    have e := eqv_vo gx gy
    rw [List.map_cons, List.map_cons, PyData.eqvAll, ltR, ltR, ih, e]
    cases h1 : ltV x y <;> cases h2 : ltV y x <;> simp
theorem shaped_vo {a : D} (h : gv a) : SeqAt.shaped (vo a) = true := by
  rcases gv_cases h with rfl | ⟨b, rfl⟩ | ⟨i, rfl⟩ | ⟨s, rfl⟩
  · simp [vo, SeqAt.shaped, PyData.canLay0, PyData.canLayAll0, PyData.depth, PyData.depthAll]
  · simp [vo, SeqAt.shaped, PyData.canLay0, PyData.canLayAll0, PyData.depth, PyData.depthAll]
  · simp [vo, SeqAt.shaped, PyData.canLay0, PyData.canLayAll0, PyData.depth, PyData.depthAll]
  · have hs : (PyData.str s).canLay0 = true := SeqAt.canLay_of_shaped h.2
    simpa [vo, SeqAt.shaped, PyData.canLay0, PyData.canLayAll0, PyData.depth, PyData.depthAll] using hs
theorem ixA_nat {α : Type} (xs : List α) (i : Nat) : ixA xs (i : Int) = xs[i]? := by
  unfold ixA
  rw [if_pos (Int.natCast_nonneg i)]
  rfl
/-- a row of values -/
def gr (r : D) : Prop := ∃ xs, r = .tuple xs ∧ xs.length ≤ 1000 ∧ ∀ v ∈ xs, gv v
end Lw
set_option maxHeartbeats 4000000
namespace Lw
open PySem Dn Dm
/-- the three types -/
def kd (k : Str) : Prop := k = "flag" ∨ k = "whole" ∨ k = "text"
/-- a text that may stand in a value -/
def signOk (c : Nat) : Bool := decide ((32 ≤ c ∧ c ≤ 126) ∧ c ≠ 37)
def textB (s : Str) : Bool := decide (s.length ≤ 40) && s.cps.toList.all signOk
/-- a value of the document -/
def isV : D → Bool
  | .none => true
  | .bool _ => true
  | .int i => decide (-1000000000 ≤ i ∧ i ≤ 1000000000)
  | .str s => textB s
  | _ => false
theorem isV_int {i : Int} (h : -1000000000 ≤ i ∧ i ≤ 1000000000) : isV (.int i) = true := decide_eq_true h
/-- a field -/
def fdD (p : Str × Str) : D := .tuple [.str p.1, .str p.2]
def colAt : Nat → List (Str × Str) → Str → D
  | _, [], _ => .none
  | i, p :: ps, x => if p.1 = x then .int i else colAt (i + 1) ps x
theorem cut_take {α : Type} (xs : List α) (i : Nat) : cutA xs none (some (i : Int)) = xs.take i := by
  unfold cutA
  rw [HT.sIx_none, HT.sIx_nat, List.drop_zero, Nat.sub_zero]
  rw [List.take_eq_take_iff]
  omega
theorem cut_drop {α : Type} (xs : List α) (i : Nat) : cutA xs (some (i : Int)) none = xs.drop i := by
  unfold cutA
  rw [HT.sIx_none, HT.sIx_nat]
  rw [List.take_of_length_le (by rw [List.length_drop]; omega)]
  by_cases h : i ≤ xs.length
  · rw [Nat.min_eq_left h]
  · rw [Nat.min_eq_right (by omega), List.drop_length, List.drop_eq_nil_of_le (by omega)]
theorem cut_drop1 {α : Type} (xs : List α) (i : Nat) : cutA xs (some ((i : Int) + 1)) none = xs.drop (i + 1) := cut_drop xs (i + 1)
/-- a remainder as a number of places -/
theorem modN (s : Int) {m : Int} (h : 0 < m) : ∃ k : Nat, s % m = (k : Int) ∧ (k : Int) < m := ⟨(s % m).toNat, by have := Int.emod_nonneg s (show m ≠ 0 by omega); omega, by have := Int.emod_nonneg s (show m ≠ 0 by omega); have := Int.emod_lt_of_pos s h; omega⟩
theorem ltR_irr : ∀ {xs : List D}, (∀ v ∈ xs, gv v) → ltR xs xs = false
  | [], _ => rfl
  | x :: xs, h => by
    rw [ltR, ltV_irr (h x List.mem_cons_self), ltR_irr fun v hv => h v (List.mem_cons_of_mem _ hv)]
    rfl
end Lw
set_option maxHeartbeats 4000000
namespace Lw
open PySem Dn Dm
mutual
/-- small leaves -/
def smD : D → Bool
  | .none => true
  | .bool _ => true
  | .int i => decide (i.natAbs < 1000000000000)
  | .str s => PyData.strOk s && decide (s.length ≤ 100) && s.cps.toList.all fun c => decide (c < 16 ^ 8)
  | .list xs => smL xs
  | .tuple xs => smL xs
  | .dict _ => false
def smL : List D → Bool
  | [] => true
  | x :: xs => smD x && smL xs
end
mutual
def nodes : D → Nat
  | .list xs => nodesL xs
  | .tuple xs => nodesL xs
  | _ => 1
def nodesL : List D → Nat
  | [] => 0
  | x :: xs => nodes x + 1 + nodesL xs
end
theorem int_log {i : Int} (h : i.natAbs < 1000000000000) : i.natAbs.log2 < 60 := by
  by_cases z : i.natAbs = 0
  · rw [z]; decide
  · exact (Nat.log2_lt z).mpr (by omega)
mutual
theorem sm_ok : ∀ d : D, smD d = true → d.canLay0 = true ∧ PyData.showable d = true ∧ PyData.leavesShort 13 d = true ∧ d.weight ≤ 101 * nodes d
  | .none, _ => ⟨rfl, rfl, rfl, by simp [PyData.weight, nodes]⟩
  | .bool _, _ => ⟨rfl, rfl, rfl, by simp [PyData.weight, nodes]⟩
  | .int i, h => by
    have h' : i.natAbs < 1000000000000 := by simpa [smD] using h
    have hl := int_log h'
    refine ⟨rfl, ?_, ?_, ?_⟩
    · simp only [PyData.showable, decide_eq_true_eq]
      omega
    · simp only [PyData.leavesShort, decide_eq_true_eq]
      exact PyData.shown_int_le (by omega)
    · simp only [PyData.weight, nodes]
      split <;> omega
  | .str s, h => by
    simp only [smD, Bool.and_eq_true, decide_eq_true_eq] at h
    refine ⟨?_, rfl, ?_, ?_⟩
    · simpa [PyData.canLay0] using h.1.1
    · simpa only [PyData.leavesShort] using h.2
    · have h1 : s.cps.size ≤ 100 := h.1.2
      simp only [PyData.weight, nodes]
      omega
  | .list xs, h => by
    obtain ⟨h1, h2, h3, h4⟩ := smL_ok xs (by simpa [smD] using h)
    exact ⟨by simpa [PyData.canLay0] using h1, by simpa [PyData.showable] using h2, by simpa [PyData.leavesShort] using h3, by simpa [PyData.weight, nodes] using h4⟩
  | .tuple xs, h => by
    obtain ⟨h1, h2, h3, h4⟩ := smL_ok xs (by simpa [smD] using h)
    exact ⟨by simpa [PyData.canLay0] using h1, by simpa [PyData.showable] using h2, by simpa [PyData.leavesShort] using h3, by simpa [PyData.weight, nodes] using h4⟩
  | .dict _, h => by simp [smD] at h
theorem smL_ok : ∀ ds : List D, smL ds = true → PyData.canLayAll0 ds = true ∧ PyData.showableAll ds = true ∧ PyData.leavesShortAll 13 ds = true ∧ PyData.weightAll ds ≤ 101 * nodesL ds
  | [], _ => ⟨rfl, rfl, rfl, by simp [PyData.weightAll]⟩
  | d :: ds, h => by
    simp only [smL, Bool.and_eq_true] at h
    obtain ⟨h1, h2, h3, h4⟩ := sm_ok d h.1
    obtain ⟨i1, i2, i3, i4⟩ := smL_ok ds h.2
    refine ⟨by simp [PyData.canLayAll0, h1, i1], by simp [PyData.showableAll, h2, i2], by simp [PyData.leavesShortAll, h3, i3], ?_⟩
    simp only [PyData.weightAll, nodesL]
    omega
end
theorem repr_ok {d : D} (h : smD d = true) (hd : d.depth ≤ 8) (hn : nodes d ≤ 10000) : reprOk d = true := by
  obtain ⟨h1, h2, h3, h4⟩ := sm_ok d h
  unfold reprOk
  simp only [h1, h2, h3, Bool.and_true, Bool.true_and, Bool.and_eq_true, decide_eq_true_eq]
  refine ⟨hd, Nat.le_trans h4 (Nat.le_trans (Nat.mul_le_mul_left 101 hn) (by decide))⟩
theorem sm_of {d : D} (g : gv d) (h : isV d = true) : smD d = true := by
  rcases gv_cases g with rfl | ⟨b, rfl⟩ | ⟨i, rfl⟩ | ⟨s, rfl⟩
  · rfl
  · rfl
  · have := of_decide_eq_true h
    simp only [smD, decide_eq_true_eq]
    omega
  · have h1 := Bool.and_eq_true_iff.mp h
    have h2 : s.length ≤ 40 := of_decide_eq_true h1.1
    have h3 : PyData.strOk s = true := by simpa [PyData.canLay0] using SeqAt.canLay_of_shaped g.2
    simp only [smD, h3, Bool.true_and, Bool.and_eq_true, decide_eq_true_eq, List.all_eq_true]
    refine ⟨by omega, fun c hc => ?_⟩
    have h4 := (List.all_eq_true.mp h1.2) c hc
    have h5 := of_decide_eq_true h4
    have : (16 : Nat) ^ 8 = 4294967296 := by decide
    omega
theorem depth_v {d : D} (g : gv d) : d.depth = 0 := by
  rcases gv_cases g with rfl | ⟨b, rfl⟩ | ⟨i, rfl⟩ | ⟨s, rfl⟩ <;> simp [PyData.depth]
theorem nodes_v {d : D} (g : gv d) : nodes d = 1 := by
  rcases gv_cases g with rfl | ⟨b, rfl⟩ | ⟨i, rfl⟩ | ⟨s, rfl⟩ <;> simp [nodes]
open DnSo in
theorem ord_vo {d : D} (g : gv d) : ord0 (vo d) = true ∧ (vo d).canLay0 = true ∧ (vo d).depth ≤ 8 ∧ fst1 isI (vo d) = true := by
  have hs := SeqAt.canLay_of_shaped (shaped_vo g)
  rcases gv_cases g with rfl | ⟨b, rfl⟩ | ⟨i, rfl⟩ | ⟨s, rfl⟩ <;> exact ⟨rfl, hs, by simp [vo, PyData.depth, PyData.depthAll], rfl⟩
theorem ofString_inj {a b : String} (h : Str.ofString a = Str.ofString b) : a = b := by
  have h1 := congrArg (fun s : Str => s.cps.toList) h
  simp only [PyProof.Rows.signs_ofString] at h1
  have h2 : a.toList = b.toList := (List.map_inj_right (fun x y e => Char.toNat_inj.mp e)).mp h1
  exact String.toList_inj.mp h2
end Lw
set_option maxHeartbeats 4000000
namespace Lw
open PySem Dn Dm DnSo
/-- time and row; a move has a weight besides -/
abbrev Ky := Int × List D
abbrev Mv := Ky × Int
def kyD (k : Ky) : D := .tuple [.int k.1, .tuple (k.2.map vo)]
def okK (k : Ky) : Prop := (∀ v ∈ k.2, gv v) ∧ k.2.length ≤ 1000
def okL (ms : List Mv) : Prop := ∀ m ∈ ms, okK m.1
def eqK (a b : Ky) : Bool := decide (a.1 = b.1) && (!ltR a.2 b.2 && !ltR b.2 a.2)
def kLt (a b : Ky) : Bool := if a.1 = b.1 then ltR a.2 b.2 else decide (a.1 < b.1)
theorem vo_ord {xs : List D} (h : ∀ v ∈ xs, gv v) : ordL (xs.map vo) = true ∧ PyData.canLayAll0 (xs.map vo) = true ∧ PyData.depthAll (xs.map vo) ≤ 1 := by
  induction xs with
  | nil => exact ⟨rfl, rfl, by decide⟩
  | cons x xs ih =>
    obtain ⟨i1, i2, i3⟩ := ih fun v hv => h v (List.mem_cons_of_mem _ hv)
    obtain ⟨o1, o2, _, _⟩ := ord_vo (h x List.mem_cons_self)
    have o3 : (vo x).depth ≤ 1 := by
      rcases gv_cases (h x List.mem_cons_self) with rfl | ⟨b, rfl⟩ | ⟨i, rfl⟩ | ⟨s, rfl⟩ <;> simp [vo, PyData.depth, PyData.depthAll]
    refine ⟨?_, ?_, ?_⟩
    · rw [List.map_cons, ordL, o1, i1]; rfl
    · rw [List.map_cons, PyData.canLayAll0, o2, i2]; rfl
    · rw [List.map_cons, PyData.depthAll]; omega
theorem ky_ord {k : Ky} (h : okK k) : ord0 (kyD k) = true ∧ (kyD k).canLay0 = true ∧ (kyD k).depth ≤ 3 ∧ fst1 isI (kyD k) = true := by
  obtain ⟨o1, o2, o3⟩ := vo_ord h.1
  refine ⟨?_, ?_, ?_, rfl⟩
  · simp [kyD, ord0, ordL, o1]
  · simp [kyD, PyData.canLay0, PyData.canLayAll0, o2]
  · simp [kyD, PyData.depth, PyData.depthAll]
    omega
theorem ltB_ky {a b : Ky} (ha : okK a) (hb : okK b) : DnLt.ltB (kyD a) (kyD b) = some (kLt a b) := by
  show DnLt.ltB (.tuple [.int a.1, .tuple (a.2.map vo)]) (.tuple [.int b.1, .tuple (b.2.map vo)]) = _
  rw [DnLt.ltB, DnLt.ltA, PyData.eqv]
  unfold kLt
  by_cases h : a.1 = b.1
  · rw [if_pos h]
    have e : (a.1 == b.1) = true := by simp [h]
    rw [e, if_pos rfl, DnLt.ltA, PyData.eqv]
    have e2 := eqvAll_vo ha.1 hb.1
    cases h2 : PyData.eqvAll (a.2.map vo) (b.2.map vo) with
    | true =>
      rw [h2] at e2
      have e3 : ltR a.2 b.2 = false ∧ ltR b.2 a.2 = false := by simpa using e2.symm
      rw [if_pos rfl, e3.1]
      rfl
    | false =>
      rw [if_neg (by decide), DnLt.ltB, ltA_vo ha.1 hb.1]
  · rw [if_neg h]
    have e : (a.1 == b.1) = false := by simp [h]
    rw [e, if_neg (by decide), DnLt.ltB]
theorem cmp_ky {a b : Ky} (ha : okK a) (hb : okK b) : (cmp3 (kyD a) (kyD b) == .lt) = kLt a b := (cmp_of_ltB _ _ _ (ky_ord ha).1 (ky_ord hb).1 (ltB_ky ha hb)).symm
theorem kLt_asym {a b : Ky} (ha : okK a) (hb : okK b) (h : kLt a b = true) : kLt b a = false := by
  rw [← cmp_ky hb ha]
  rw [← cmp_ky ha hb] at h
  exact swo3.asym _ _ h
theorem kLt_irr {a : Ky} (ha : okK a) : kLt a a = false := by
  unfold kLt
  rw [if_pos rfl]
  exact ltR_irr ha.1
def wt (ms : List Mv) (k : Ky) : Int := (ms.map fun m => if eqK m.1 k = true then m.2 else 0).sum
def neg (ms : List Mv) : List Mv := ms.map fun m => (m.1, -m.2)
theorem okL_cons {m : Mv} {ms : List Mv} : okL (m :: ms) ↔ okK m.1 ∧ okL ms := by
  unfold okL
  simp only [List.mem_cons, forall_eq_or_imp]
/-- no key twice -/
def nd (F : List Mv) : Prop := F.Pairwise fun x y => x.1 ≠ y.1
def asc (F : List Mv) : Prop := F.Pairwise fun x y => kLt x.1 y.1 = true
theorem uniq : ∀ {xs ys : List Mv}, okL xs → okL ys → asc xs → asc ys → (∀ m, m ∈ xs ↔ m ∈ ys) → xs = ys
  | [], [], _, _, _, _, _ => rfl
  | [], y :: ys, _, _, _, _, h => by
    have := (h y).mpr List.mem_cons_self
    cases this
  | x :: xs, [], _, _, _, _, h => by
    have := (h x).mp List.mem_cons_self
    cases this
  | x :: xs, y :: ys, h1, h2, h3, h4, h => by
    obtain ⟨o1, o2⟩ := okL_cons.mp h1
    obtain ⟨p1, p2⟩ := okL_cons.mp h2
    obtain ⟨a1, a2⟩ := List.pairwise_cons.mp h3
    obtain ⟨b1, b2⟩ := List.pairwise_cons.mp h4
    have e : x = y := by
      rcases List.mem_cons.mp ((h x).mp List.mem_cons_self) with e | hx
      · exact e
      · rcases List.mem_cons.mp ((h y).mpr List.mem_cons_self) with e | hy
        · exact e.symm
        · have q1 := b1 x hx
          have q2 := a1 y hy
          rw [kLt_asym o1 p1 q2] at q1
          cases q1
    subst e
    refine congrArg _ (uniq o2 p2 a2 b2 fun m => ⟨fun hm => ?_, fun hm => ?_⟩)
    · rcases List.mem_cons.mp ((h m).mp (List.mem_cons_of_mem _ hm)) with e | h'
      · subst e
        have := a1 m hm
        rw [kLt_irr o1] at this
        cases this
      · exact h'
    · rcases List.mem_cons.mp ((h m).mpr (List.mem_cons_of_mem _ hm)) with e | h'
      · subst e
        have := b1 m hm
        rw [kLt_irr o1] at this
        cases this
      · exact h'
end Lw
set_option maxHeartbeats 4000000
namespace Lw
open PySem Dn Dm DnSo
end Lw
set_option maxHeartbeats 2000000
namespace Dm
open PySem Dn DnSo Lw
section
variable {ρ : Env} {Q : D → Env → Prop} {R : Fl → Env → Prop} {i p q v : Nat} {gi : Md (List D)} {gt : D → Env → Option Env} {gk : Md D} {gc g0 : Md Bool} {g2 gx : Md D}
theorem wo_TLst {n : Nat} {gs : List D → Env → Option Env} {ds : List D} {Q : Env → Prop} : Wo (gTLst n gs (.list ds) ρ) Q ↔ ds.length = n ∧ Wo (gs ds ρ) Q := by
  show Wo (if ds.length = n then gs ds ρ else none) Q ↔ _
  by_cases h : ds.length = n
  · rw [if_pos h]; simp [h]
  · rw [if_neg h, wo_none]; simp [h]
theorem empty_ownL : emptyOwnL (some (some (.own false (.list [])))) = true := rfl
theorem ws_grpL : Ws (sGrpL i gi gt p q v gk gc g0 g2 gx) ρ R ↔ Wm gi ρ fun ds ρ1 => emptyOwnL ρ1[i]? = true ∧ Wo (grpLD gt p q v gk gc g0 g2 gx ds [] (ρ1.set i none)) fun r => Wo (canSet r.2[i]?) fun _ => R .nx (r.2.set i (some (.val (.list (r.1.map gpD))))) := by
  unfold Ws Wm sGrpL
  rw [wo_bind]
  refine Iff.of_eq (congrArg _ (funext fun w => ?_))
  try dsimp only
  by_cases h : emptyOwnL w.2[i]? = true
  · rw [if_pos h]
    simp only [wo_bind, wo_some, setC_eq, h, true_and]
  · rw [if_neg h, wo_none]
    simp [h]
end
end Dm
set_option maxHeartbeats 2000000
namespace Dm
open PySem Dn Gz
def Wg (g : Gd) (ρ : Env) (Q : List D → Fl → Env → Prop) : Prop := Wo (g ρ) fun p => Q p.1 p.2.1 p.2.2
def thenG (t : Gd) (Q : List D → Fl → Env → Prop) : List D → Fl → Env → Prop
  | ys, .nx, ρ => Wg t ρ fun zs f ρ1 => Q (ys ++ zs) f ρ1
  | ys, .ret d, ρ => Q ys (.ret d) ρ
  | ys, .rof d, ρ => Q ys (.rof d) ρ
  | ys, .brk, ρ => Q ys .brk ρ
  | ys, .cnt, ρ => Q ys .cnt ρ
section
variable {ρ : Env} {Q : List D → Fl → Env → Prop}
theorem wg_P {s : Sd} : Wg (gP s) ρ Q ↔ Ws s ρ fun f ρ1 => Q [] f ρ1 := by
  unfold Wg Ws gP
  simp only [wo_bind, wo_some]
theorem wg_end : Wg gEnd ρ Q ↔ Q [] .nx ρ := wo_some
theorem wg_then {s t : Gd} : Wg (gThen s t) ρ Q ↔ Wg s ρ (thenG t Q) := by
  unfold Wg gThen
  rw [wo_bind]
  refine Iff.of_eq (congrArg _ (funext fun p => ?_))
  obtain ⟨ys, f, ρ1⟩ := p
  cases f with
  | nx =>
    show Wo ((t ρ1).bind fun q => some (ys ++ q.1, q.2)) _ = Wo (t ρ1) _
    rw [wo_bind]
    simp only [wo_some]
  | ret d => exact propext wo_some
  | rof d => exact propext wo_some
  | brk => exact propext wo_some
  | cnt => exact propext wo_some
theorem theng_nx {t : Gd} {ys : List D} : thenG t Q ys .nx ρ ↔ Wg t ρ fun zs f ρ1 => Q (ys ++ zs) f ρ1 := Iff.rfl
theorem wg_yield {e : Md D} : Wg (gYield e) ρ Q ↔ Wm e ρ fun d ρ1 => Gz.noOwn ρ1 = true ∧ Q [d] .nx ρ1 := by
  unfold Wg Wm gYield
  rw [wo_bind]
  refine Iff.of_eq (congrArg _ (funext fun p => ?_))
  rw [wo_ite, wo_some, wo_none]
  by_cases h : Gz.noOwn p.2 = true
  · rw [if_pos h]; simp [h]
  · rw [if_neg h]; simp [h]
theorem wm_callG {f : List D → Option (List D)} {a : Md (List D)} {Q : List D → Env → Prop} : Wm (gCallG f a) ρ Q ↔ Wm a ρ fun x ρ1 => Wo (f x) fun r => Q r ρ1 := by
  unfold Wm gCallG
  simp only [wo_bind, wo_some]
theorem wo_runG {N : Nat} {g : Gd} {ds : List D} {Q : List D → Prop} : Wo (runG N g ds) Q ↔ Wg g (envV N ds) fun ys f _ => f = .nx ∧ Q ys := by
  unfold Wg runG
  rw [wo_bind]
  refine Iff.of_eq (congrArg _ (funext fun p => ?_))
  obtain ⟨ys, f, ρ1⟩ := p
  cases f with
  | nx => exact propext ⟨fun h => ⟨rfl, wo_some.mp h⟩, fun h => wo_some.mpr h.2⟩
  | ret d => exact propext ⟨fun h => (wo_none.mp h).elim, fun h => (by cases h.1)⟩
  | rof d => exact propext ⟨fun h => (wo_none.mp h).elim, fun h => (by cases h.1)⟩
  | brk => exact propext ⟨fun h => (wo_none.mp h).elim, fun h => (by cases h.1)⟩
  | cnt => exact propext ⟨fun h => (wo_none.mp h).elim, fun h => (by cases h.1)⟩
end
end Dm
set_option maxHeartbeats 4000000
namespace Lw
open PySem Dn Dm DnSo
end Lw
set_option maxHeartbeats 4000000
namespace Lw
open PySem Dn Dm DnSo
end Lw
set_option maxHeartbeats 4000000
namespace Lw
open PySem PySem.Spec PyProof.Rows L2 Dn Dm DnSo
end Lw
set_option maxHeartbeats 2000000
namespace Dm
open PySem Dn
def eitherQ {α : Type} (Q : α → Env → Prop) (R : Xc → Env → Prop) : α ⊕ Xc → Env → Prop
  | .inl a, ρ => Q a ρ
  | .inr x, ρ => R x ρ
def Wx {α : Type} (g : Mx α) (ρ : Env) (Q : α → Env → Prop) (R : Xc → Env → Prop) : Prop := Wo (g ρ) fun p => eitherQ Q R p.1 p.2
section
variable {α β : Type} {ρ : Env} {Q : α → Env → Prop} {R : Xc → Env → Prop}
theorem either_l {a : α} : eitherQ Q R (.inl a) ρ ↔ Q a ρ := Iff.rfl
theorem either_r {x : Xc} : eitherQ Q R (.inr x) ρ ↔ R x ρ := Iff.rfl
theorem wx_ok {g : Md α} : Wx (xOk g) ρ Q R ↔ Wm g ρ Q := by
  unfold Wx xOk Wm
  simp only [wo_bind, wo_some]
  exact Iff.rfl
theorem wx_okD {g : Md D} {Q : D → Env → Prop} : Wx (xOk g) ρ Q R ↔ Wm g ρ Q := wx_ok
theorem wx_okL {g : Md (List D)} {Q : List D → Env → Prop} : Wx (xOk g) ρ Q R ↔ Wm g ρ Q := wx_ok
theorem wx_okB {g : Md Bool} {Q : Bool → Env → Prop} : Wx (xOk g) ρ Q R ↔ Wm g ρ Q := wx_ok
theorem wx_okS {g : Sd} {Q : Fl → Env → Prop} : Wx (xOk g) ρ Q R ↔ Ws g ρ Q := by
  unfold Wx xOk Ws
  simp only [wo_bind, wo_some]
  exact Iff.rfl
theorem wx_bind {g : Mx α} {k : α → Mx β} {Q : β → Env → Prop} : Wx (xBind g k) ρ Q R ↔ Wx g ρ (fun a ρ1 => Wx (k a) ρ1 Q R) R := by
  unfold Wx xBind
  rw [wo_bind]
  refine Iff.of_eq (congrArg _ (funext fun p => ?_))
  obtain ⟨f, ρ1⟩ := p
  cases f with
  | inl a => rfl
  | inr x => exact propext wo_some
theorem wx_pure {o : Option α} : Wx (xPure o) ρ Q R ↔ Wo o fun a => Q a ρ := by
  unfold Wx xPure
  simp only [wo_bind, wo_some]
  exact Iff.rfl
theorem wx_lift {o : Option (α ⊕ Xc)} : Wx (xLift o) ρ Q R ↔ Wo o fun a => eitherQ Q R a ρ := by
  unfold Wx xLift
  simp only [wo_bind, wo_some]
theorem wx_ite {c : Prop} [Decidable c] {a b : Mx α} : Wx (if c then a else b) ρ Q R ↔ if c then Wx a ρ Q R else Wx b ρ Q R := by
  by_cases h : c
  · rw [if_pos h, if_pos h]
  · rw [if_neg h, if_neg h]
theorem wx_cons {g : Mx D} {gs : Mx (List D)} {Q : List D → Env → Prop} : Wx (xCons g gs) ρ Q R ↔ Wx g ρ (fun d ρ1 => Wx gs ρ1 (fun ds ρ2 => Q (d :: ds) ρ2) R) R := by
  unfold xCons
  simp only [wx_bind, wx_pure, wo_some]
theorem wx_call {f : List D → Option (D ⊕ Xc)} {gs : Mx (List D)} {Q : D → Env → Prop} : Wx (xCall f gs) ρ Q R ↔ Wx gs ρ (fun ds ρ1 => Wo (f ds) fun r => eitherQ Q R r ρ1) R := by
  unfold xCall
  simp only [wx_bind, wx_lift]
theorem wx_app {f : List D → Option D} {gs : Mx (List D)} {Q : D → Env → Prop} : Wx (xApp f gs) ρ Q R ↔ Wx gs ρ (fun ds ρ1 => Wo (f ds) fun r => Q r ρ1) R := by
  unfold xApp
  simp only [wx_bind, wx_pure]
theorem wx_bin {f : D → D → Option D} {a b : Mx D} {Q : D → Env → Prop} : Wx (xBin f a b) ρ Q R ↔ Wx a ρ (fun x ρ1 => Wx b ρ1 (fun y ρ2 => Wo (f x y) fun r => Q r ρ2) R) R := by
  unfold xBin
  simp only [wx_bind, wx_pure]
theorem wx_tst {a : Mx D} {Q : Bool → Env → Prop} : Wx (xTst a) ρ Q R ↔ Wx a ρ (fun x ρ1 => Wo (bOf x) fun r => Q r ρ1) R := by
  unfold xTst
  simp only [wx_bind, wx_pure]
theorem wx_not {a : Mx Bool} {Q : Bool → Env → Prop} : Wx (xNot a) ρ Q R ↔ Wx a ρ (fun x ρ1 => Q (!x) ρ1) R := by
  unfold xNot
  simp only [wx_bind, wx_pure, wo_some]
def thenX (t : Sx) (Q : Fl → Env → Prop) (R : Xc → Env → Prop) : Fl → Env → Prop
  | .nx, ρ => Wx t ρ Q R
  | .ret d, ρ => Q (.ret d) ρ
  | .rof d, ρ => Q (.rof d) ρ
  | .brk, ρ => Q .brk ρ
  | .cnt, ρ => Q .cnt ρ
variable {S : Fl → Env → Prop}
theorem thenx_nx {t : Sx} : thenX t S R .nx ρ ↔ Wx t ρ S R := Iff.rfl
theorem thenx_ret {t : Sx} {d : D} : thenX t S R (.ret d) ρ ↔ S (.ret d) ρ := Iff.rfl
theorem thenx_rof {t : Sx} {d : D} : thenX t S R (.rof d) ρ ↔ S (.rof d) ρ := Iff.rfl
theorem thenx_brk {t : Sx} : thenX t S R .brk ρ ↔ S .brk ρ := Iff.rfl
theorem thenx_cnt {t : Sx} : thenX t S R .cnt ρ ↔ S .cnt ρ := Iff.rfl
theorem wx_seq {s t : Sx} : Wx (xSeq s t) ρ S R ↔ Wx s ρ (thenX t S R) R := by
  unfold Wx xSeq
  rw [wo_bind]
  refine Iff.of_eq (congrArg _ (funext fun p => ?_))
  obtain ⟨f, ρ1⟩ := p
  cases f with
  | inr x => exact propext wo_some
  | inl f =>
    cases f with
    | nx => rfl
    | ret d => exact propext wo_some
    | rof d => exact propext wo_some
    | brk => exact propext wo_some
    | cnt => exact propext wo_some
theorem wx_if {g : Mx Bool} {s t : Sx} : Wx (xIf g s t) ρ S R ↔ Wx g ρ (fun b ρ1 => if b = true then Wx s ρ1 S R else Wx t ρ1 S R) R := by
  unfold xIf
  simp only [wx_bind, wx_ite]
theorem wx_ret {g : Mx D} : Wx (xRet g) ρ S R ↔ Wx g ρ (fun d ρ1 => S (.ret d) ρ1) R := by
  unfold xRet
  simp only [wx_bind, wx_pure, wo_some]
theorem wx_drop {g : Mx D} : Wx (xDrop g) ρ S R ↔ Wx g ρ (fun d ρ1 => S .nx ρ1) R := by
  unfold xDrop
  simp only [wx_bind, wx_pure, wo_some]
theorem wx_set {i : Nat} {g : Mx D} : Wx (xSet i g) ρ S R ↔ Wx g ρ (fun d ρ1 => Wo (canSet ρ1[i]?) fun _ => S .nx (ρ1.set i (some (.val d)))) R := by
  unfold xSet
  rw [wx_bind]
  have e : ∀ d ρ1, Wx (fun ρ => (setC i (.val d) ρ).bind fun r => some ((.inl .nx : Fl ⊕ Xc), r)) ρ1 S R ↔ Wo (canSet ρ1[i]?) fun _ => S .nx (ρ1.set i (some (.val d))) := fun d ρ1 => by
    unfold Wx
    simp only [wo_bind, wo_some, setC_eq]
    exact Iff.rfl
  simp only [e]
theorem wx_apd {i : Nat} {g : Mx D} : Wx (xApd i g) ρ S R ↔ Wo (ownL ρ[i]?) fun _ => Wx g ρ (fun d ρ1 => Wo (ownL ρ1[i]?) fun p => p.2.length < 16777216 ∧ S .nx (ρ1.set i (some (.own p.1 (.list (p.2 ++ [d])))))) R := by
  have e : ∀ d ρ1, Wx (fun ρ1 : Env => (ownL ρ1[i]?).bind fun p => if p.2.length < 16777216 then some ((.inl .nx : Fl ⊕ Xc), ρ1.set i (some (.own p.1 (.list (p.2 ++ [d]))))) else none) ρ1 S R ↔ Wo (ownL ρ1[i]?) fun p => p.2.length < 16777216 ∧ S .nx (ρ1.set i (some (.own p.1 (.list (p.2 ++ [d]))))) := fun d ρ1 => by
    unfold Wx
    rw [wo_bind]
    refine Iff.of_eq (congrArg _ (funext fun p => propext ?_))
    by_cases q : p.2.length < 16777216
    · rw [if_pos q, wo_some]
      simp [q, eitherQ]
    · rw [if_neg q, wo_none]
      simp [q]
  unfold xApd
  have e2 : ∀ (u : Bool × List D), Wx (xBind g fun d ρ1 => (ownL ρ1[i]?).bind fun p => if p.2.length < 16777216 then some ((.inl .nx : Fl ⊕ Xc), ρ1.set i (some (.own p.1 (.list (p.2 ++ [d]))))) else none) ρ S R ↔ Wx g ρ (fun d ρ1 => Wo (ownL ρ1[i]?) fun p => p.2.length < 16777216 ∧ S .nx (ρ1.set i (some (.own p.1 (.list (p.2 ++ [d])))))) R := fun _ => by
    rw [wx_bind]
    simp only [e]
  unfold Wx at e2 ⊢
  rw [wo_bind]
  exact Iff.of_eq (congrArg _ (funext fun u => propext (e2 u)))
def strOf : D → Option Str
  | .str m => some m
  | _ => none
theorem strOf_s {m : Str} : strOf (.str m) = some m := rfl
theorem wx_raise {n : Str} {g : Md D} : Wx (xRaise n g) ρ S R ↔ Wm g ρ fun d ρ1 => Wo (strOf d) fun m => R ⟨n, m⟩ ρ1 := by
  unfold Wx xRaise Wm
  rw [wo_bind]
  refine Iff.of_eq (congrArg _ (funext fun p => ?_))
  obtain ⟨d, ρ1⟩ := p
  cases d <;> (refine propext ?_; simp only [strOf, wo_some, wo_none]; try exact Iff.rfl)
theorem wx_for {gi : Md (List D)} {tg : D → Env → Option Env} {b : Sx} : Wx (xFor gi tg b) ρ S R ↔ Wm gi ρ fun ds ρ1 => Wx (forX tg b ds) ρ1 S R := by
  unfold Wx Wm xFor
  rw [wo_bind]
theorem forx_nil {tg : D → Env → Option Env} {b : Sx} : Wx (forX tg b []) ρ S R ↔ S .nx ρ := wo_some
def turnX (t : Sx) (S : Fl → Env → Prop) (R : Xc → Env → Prop) : Fl → Env → Prop
  | .nx, ρ => Wx t ρ S R
  | .cnt, ρ => Wx t ρ S R
  | .brk, ρ => S .nx ρ
  | .ret d, ρ => S (.ret d) ρ
  | .rof d, ρ => S (.rof d) ρ
theorem turnx_nx {t : Sx} : turnX t S R .nx ρ ↔ Wx t ρ S R := Iff.rfl
theorem forx_cons {tg : D → Env → Option Env} {b : Sx} {d : D} {ds : List D} : Wx (forX tg b (d :: ds)) ρ S R ↔ Wo (tg d ρ) fun ρ1 => Wx b ρ1 (turnX (forX tg b ds) S R) R := by
  unfold Wx
  show Wo ((tg d ρ).bind fun ρ1 => (b ρ1).bind _) _ ↔ _
  rw [wo_bind]
  refine Iff.of_eq (congrArg _ (funext fun ρ1 => ?_))
  rw [wo_bind]
  refine congrArg _ (funext fun p => ?_)
  obtain ⟨f, ρ2⟩ := p
  cases f with
  | inr x => exact propext wo_some
  | inl f =>
    cases f with
    | nx => rfl
    | cnt => rfl
    | brk => exact propext wo_some
    | ret d => exact propext wo_some
    | rof d => exact propext wo_some
theorem wx_mono {g : Mx α} {Q' : α → Env → Prop} {R' : Xc → Env → Prop} (h : Wx g ρ Q R) (i : ∀ a ρ', Q a ρ' → Q' a ρ') (j : ∀ x ρ', R x ρ' → R' x ρ') : Wx g ρ Q' R' := wo_mono h fun p q => by
  obtain ⟨f, ρ1⟩ := p
  cases f with
  | inl a => exact i a ρ1 q
  | inr x => exact j x ρ1 q
theorem ws_noX {g : Sx} : Ws (noX g) ρ S ↔ Wx g ρ S fun _ _ => False := by
  unfold Ws Wx noX
  rw [wo_bind]
  refine Iff.of_eq (congrArg _ (funext fun p => ?_))
  obtain ⟨f, ρ1⟩ := p
  cases f with
  | inl f => exact propext wo_some
  | inr x => exact propext (wo_none.trans Iff.rfl)
theorem wx_try {h : Str → Option Bool} {gb : Sx} {gs : Xc → Sd} : Wx (xTry h gb gs) ρ S R ↔ Wx gb ρ S fun x ρ1 => Wo (h x.c) fun b => if b = true then Ws (gs x) ρ1 S else R x ρ1 := by
  unfold Wx xTry
  rw [wo_bind]
  refine Iff.of_eq (congrArg _ (funext fun p => ?_))
  obtain ⟨f, ρ1⟩ := p
  cases f with
  | inl f => exact propext wo_some
  | inr x =>
    refine propext ?_
    show Wo ((h x.c).bind _) _ ↔ Wo (h x.c) _
    rw [wo_bind]
    refine Iff.of_eq (congrArg _ (funext fun b => ?_))
    cases b with
    | true => exact propext wx_okS
    | false => exact propext wo_some
def retQ (S : Fl → Env → Prop) : Fl → Env → Prop
  | .ret d, ρ => S (.ret d) ρ
  | _, _ => False
theorem retq_ret {d : D} : retQ S (.ret d) ρ ↔ S (.ret d) ρ := Iff.rfl
theorem ws_clear {i : Nat} {g : Sd} : Ws (clearS i g) ρ S ↔ (notOwn ρ i = true ∧ i < ρ.length) ∧ Ws g (ρ.set i none) (retQ S) := by
  unfold Ws clearS
  by_cases h : notOwn ρ i = true ∧ i < ρ.length
  · rw [if_pos h, wo_bind]
    simp only [h, and_self, true_and]
    refine Iff.of_eq (congrArg _ (funext fun p => ?_))
    obtain ⟨f, ρ1⟩ := p
    cases f with
    | ret d => exact propext wo_some
    | nx => exact propext wo_none
    | brk => exact propext wo_none
    | cnt => exact propext wo_none
    | rof d => exact propext wo_none
  · rw [if_neg h, wo_none]
    simp [h]
theorem wx_tryA {i : Nat} {h : Str → Option Bool} {gb : Sx} {gs : Xc → Sd} : Wx (xTryA i h gb gs) ρ S R ↔ Wx gb ρ S fun x ρ1 => Wo (h x.c) fun b => if b = true then (notOwn ρ1 i = true ∧ i < ρ1.length) ∧ Ws (gs x) (ρ1.set i none) (retQ S) else R x ρ1 := by
  unfold xTryA
  rw [wx_try]
  simp only [ws_clear]
/-- a def's answer -/
def endQ (Q : D ⊕ Xc → Prop) : Fl → Env → Prop
  | .nx, _ => Q (.inl .none)
  | .ret d, _ => Q (.inl d)
  | _, _ => False
theorem endq_nx {Q : D ⊕ Xc → Prop} : endQ Q .nx ρ ↔ Q (.inl .none) := Iff.rfl
theorem endq_ret {Q : D ⊕ Xc → Prop} {d : D} : endQ Q (.ret d) ρ ↔ Q (.inl d) := Iff.rfl
theorem wo_runX {N : Nat} {g : Sx} {ds : List D} {Q : D ⊕ Xc → Prop} : Wo (runX N g ds) Q ↔ Wx g (envV N ds) (endQ Q) fun x _ => Q (.inr x) := by
  unfold Wx runX
  rw [wo_bind]
  refine Iff.of_eq (congrArg _ (funext fun p => ?_))
  obtain ⟨f, ρ1⟩ := p
  cases f with
  | inr x => exact propext wo_some
  | inl f =>
    cases f with
    | nx => exact propext wo_some
    | ret d => exact propext wo_some
    | rof d => exact propext wo_none
    | brk => exact propext wo_none
    | cnt => exact propext wo_none
theorem forx_go {α : Type} (h : α → D) {tg : D → Env → Option Env} {b : Sx} (I : List α → Env → Prop) : ∀ (xs p : List α) (ρ : Env), I p ρ →
    (∀ (q : List α) (x : α) (r : List α) (ρ : Env), p ++ xs = q ++ x :: r → I q ρ → Wo (tg (h x) ρ) fun ρ1 => Wx b ρ1 (stepQ (I (q ++ [x])) S) R) →
    (∀ ρ', I (p ++ xs) ρ' → S .nx ρ') → Wx (forX tg b (xs.map h)) ρ S R
  | [], p, ρ, h0, _, fin => forx_nil.mpr (fin ρ (by rw [List.append_nil]; exact h0))
  | x :: xs, p, ρ, h0, st, fin => by
    rw [List.map_cons, forx_cons]
    refine wo_mono (st p x xs ρ rfl h0) fun ρ1 h1 => wx_mono h1 (fun f ρ2 h2 => ?_) fun _ _ z => z
    have go : I (p ++ [x]) ρ2 → Wx (forX tg b (xs.map h)) ρ2 S R := fun h3 => forx_go h I xs (p ++ [x]) ρ2 h3 (fun q y r ρ' e => st q y r ρ' (by rw [← e]; simp)) fun ρ' h4 => fin ρ' (by simpa using h4)
    cases f with
    | nx => exact go h2
    | cnt => exact go h2
    | brk => exact h2
    | ret d => exact h2
    | rof d => exact h2
theorem wx_forA {α : Type} (h : α → D) {xs : List α} {tg : D → Env → Option Env} {b : Sx} (I : List α → Env → Prop) (h0 : I [] ρ)
    (st : ∀ (q : List α) (x : α) (r : List α) (ρ : Env), xs = q ++ x :: r → I q ρ → Wo (tg (h x) ρ) fun ρ1 => Wx b ρ1 (stepQ (I (q ++ [x])) S) R)
    (fin : ∀ ρ', I xs ρ' → S .nx ρ') : Wx (forX tg b (xs.map h)) ρ S R := forx_go h I xs [] ρ h0 st fin
theorem hL_hd {n : Str} {b : Bool} {g : Str → Sd} {l : List (Str × Bool × (Str → Sd))} : hL ((n, b, g) :: l) n = some b := by
  unfold hL
  rw [lookup_hd, if_pos rfl]
  rfl
theorem gL_hd {n m : Str} {b : Bool} {g : Str → Sd} {l : List (Str × Bool × (Str → Sd))} : gL ((n, b, g) :: l) ⟨n, m⟩ = g m := by
  unfold gL
  rw [lookup_hd, if_pos rfl]
end
end Dm
set_option maxHeartbeats 2000000
namespace Dm
open PySem Dn
section
variable {ρ : Env} {R : Xc → Env → Prop}
def Wl (vs : List Nat) (tg : D → Env → Option Env) (tt : Md Bool) (te : Mx D) (ds : List D) (ρ : Env) (Q : List D → Env → Prop) (R : Xc → Env → Prop) : Prop := Wo (lcX vs tg tt te ds ρ) fun p => eitherQ Q R p.1 p.2
theorem wx_own {i : Nat} {g : Mx D} {S : Fl → Env → Prop} : Wx (xOwn i g) ρ S R ↔ Wx g ρ (fun d ρ1 => Wo (canSet ρ1[i]?) fun _ => S .nx (ρ1.set i (some (.own false d)))) R := by
  unfold xOwn
  rw [wx_bind]
  have e : ∀ d ρ1, Wx (fun ρ => (setC i (.own false d) ρ).bind fun r => some ((.inl .nx : Fl ⊕ Xc), r)) ρ1 S R ↔ Wo (canSet ρ1[i]?) fun _ => S .nx (ρ1.set i (some (.own false d))) := fun d ρ1 => by
    unfold Wx
    simp only [wo_bind, wo_some, setC_eq]
    exact Iff.rfl
  simp only [e]
variable {vs : List Nat} {tg : D → Env → Option Env} {tt : Md Bool} {te : Mx D}
theorem wl_nil {Q : List D → Env → Prop} : Wl vs tg tt te [] ρ Q R ↔ Q [] ρ := wo_some
theorem wl_cons {d : D} {ds : List D} {Q : List D → Env → Prop} : Wl vs tg tt te (d :: ds) ρ Q R ↔ Wo (tg d ρ) fun ρ1 => Wm tt ρ1 fun b ρ2 => if b = true then Wx te ρ2 (fun y ρ3 => Wl vs tg tt te ds (wipeE ρ3 vs) (fun l ρ4 => Q (y :: l) ρ4) R) (fun x ρ3 => R x (wipeE ρ3 vs)) else Wl vs tg tt te ds (wipeE ρ2 vs) Q R := by
  unfold Wl
  show Wo ((tg d ρ).bind fun ρ1 => (tt ρ1).bind fun p => if p.1 = true then (te p.2).bind _ else lcX vs tg tt te ds (wipeE p.2 vs)) _ ↔ _
  rw [wo_bind]
  refine Iff.of_eq (congrArg _ (funext fun ρ1 => ?_))
  rw [wo_bind]
  refine congrArg _ (funext fun p => ?_)
  obtain ⟨b, ρ2⟩ := p
  cases b with
  | false => rfl
  | true =>
    show Wo ((te ρ2).bind _) _ = Wx te ρ2 _ _
    unfold Wx
    rw [wo_bind]
    refine congrArg _ (funext fun p => ?_)
    obtain ⟨r, ρ3⟩ := p
    cases r with
    | inr x => exact propext wo_some
    | inl y =>
      refine propext ?_
      show Wo ((lcX vs tg tt te ds (wipeE ρ3 vs)).bind fun r => some (xapp [y] r.1, r.2)) _ ↔ Wo (lcX vs tg tt te ds (wipeE ρ3 vs)) _
      rw [wo_bind]
      refine Iff.of_eq (congrArg _ (funext fun p => ?_))
      obtain ⟨r, ρ4⟩ := p
      cases r with
      | inl l => exact propext wo_some
      | inr x => exact propext wo_some
theorem wx_lc {gi : Md (List D)} {Q : D → Env → Prop} : Wx (xLc vs gi tg tt te) ρ Q R ↔ Wm gi ρ fun ds ρ1 => (ds.length ≤ 16777216 ∧ vs.all (notOwn ρ1) = true) ∧ Wl vs tg tt te ds (wipeE ρ1 vs) (fun l ρ2 => Q (.list l) (backE ρ1 vs ρ2)) (fun x ρ2 => R x (backE ρ1 vs ρ2)) := by
  unfold Wx xLc Wm
  rw [wo_bind]
  refine Iff.of_eq (congrArg _ (funext fun p => propext ?_))
  obtain ⟨ds, ρ1⟩ := p
  by_cases h : ds.length ≤ 16777216 ∧ vs.all (notOwn ρ1) = true
  · simp only [h, and_self, ↓reduceIte, true_and, wo_bind]
    refine Iff.of_eq (congrArg _ (funext fun p => ?_))
    obtain ⟨r, ρ2⟩ := p
    cases r with
    | inl l => exact propext wo_some
    | inr x => exact propext wo_some
  · simp only [h, ↓reduceIte, wo_none, false_and]
theorem wm_callIOF {f : D → List D → Option (D × D)} {g : Md D} {Q : D → Env → Prop} : Wm (gCallIOF f g) ρ Q ↔ Wm g ρ fun d ρ1 => Wo (f d []) fun r => Q r.1 ρ1 := by
  unfold Wm gCallIOF
  simp only [wo_bind, wo_some]
end
def keysE : D → Option (List D)
  | .dict es => if dkOk es = true then some (keysU es) else none
  | _ => none
theorem wm_keys {g : Md D} {ρ : Env} {Q : List D → Env → Prop} : Wm (gKeys g) ρ Q ↔ Wm g ρ fun d ρ1 => Wo (keysE d) fun ds => Q ds ρ1 := by
  unfold Wm gKeys
  rw [wo_bind]
  refine Iff.of_eq (congrArg _ (funext fun p => ?_))
  obtain ⟨d, ρ1⟩ := p
  cases d with
  | dict es =>
    refine propext ?_
    show Wo (if dkOk es = true then some (keysU es, ρ1) else none) _ ↔ Wo (if dkOk es = true then some (keysU es) else none) _
    by_cases h : dkOk es = true
    · rw [if_pos h, if_pos h, wo_some, wo_some]
    · rw [if_neg h, if_neg h, wo_none, wo_none]
  | none => exact propext (wo_none.trans wo_none.symm)
  | bool _ => exact propext (wo_none.trans wo_none.symm)
  | int _ => exact propext (wo_none.trans wo_none.symm)
  | str _ => exact propext (wo_none.trans wo_none.symm)
  | list _ => exact propext (wo_none.trans wo_none.symm)
  | tuple _ => exact propext (wo_none.trans wo_none.symm)
end Dm
namespace Dn
open PySem PySem.Spec PyProof.Rows L2
/-- {x} in an f-string -/
def fmtD : D → Option D
  | .str y => if y.length ≤ 16777216 then some (.str y) else none
  | .int i => if i.natAbs.log2 < 1920 then some (.str (toString i)) else none
  | _ => none
def gFmt (ga : Md D) : Md D := fun ρ => (ga ρ).bind fun p => (fmtD p.1).bind fun z => some (z, p.2)
/-- a part is joined -/
def jsD (acc : Str) : D → Option Str
  | .str y => if (acc ++ y).length ≤ 16777216 then some (acc ++ y) else none
  | _ => none
def gJs : List (Md D) → Str → Md D
  | [], acc, ρ => some (.str acc, ρ)
  | g :: gs, acc, ρ => (g ρ).bind fun p => (jsD acc p.1).bind fun a => gJs gs a p.2
section
variable {X : Cx}
theorem de_fmt {e : Expr} {ga : Md D} {pos : Pos} (ha : DE X e ga) : DE X (.FormattedValue e (-1) none pos) (gFmt ga) :=
  pe_imp (pe_fmt ha) fun σ H Q q => by
    obtain ⟨F, ρ, d, ρ', s, eg, k⟩ := q
    obtain ⟨⟨x, ρ1⟩, e1, eg⟩ := bind_some eg
    obtain ⟨z, e3, eg⟩ := bind_some eg
    cases eg
    refine ⟨F, ρ, x, ρ1, s, e1, fun v F1 H1 p1 s1 r1 => ?_⟩
    replace e3 : fmtD x = some _ := e3
    unfold fmtD at e3
    split at e3
    · skip
      split at e3
      · rename_i hz
        cases e3
        cases r1
        exact .inl ⟨_, rfl, hz, k _ F1 H1 p1 s1 (.str _)⟩
      · cases e3
    · skip
      split at e3
      · rename_i hz
        cases e3
        cases r1
        exact .inr ⟨_, rfl, hz, k _ F1 H1 p1 s1 (.str _)⟩
      · cases e3
    · cases e3
inductive DJ (X : Cx) : List Expr → List (Md D) → Prop where
  | nil : DJ X [] []
  | cons {e : Expr} {g : Md D} {es : List Expr} {gs : List (Md D)} (h : DE X e g) (r : DJ X es gs) : DJ X (e :: es) (g :: gs)
theorem dj_pj {es : List Expr} {gs : List (Md D)} (h : DJ X es gs) : PJ X es (gs.map (tD (cxK X))) := by
  induction h with
  | nil => exact .nil
  | cons h r ih => exact .cons h ih
theorem js_q {Q : VK} : ∀ (gs : List (Md D)) (acc : Str) (σ : L2.St) (H : Hp) (F : Hp) (ρ : Env) (d : D) (ρ' : Env), St (cxK X) F H σ ρ → gJs gs acc ρ = some (d, ρ') → (∀ v F' H', Stp F σ ρ H F' σ ρ' H' → St (cxK X) F' H' σ ρ' → Rp (cxK X) F' v d → Q v H') → tJs (gs.map (tD (cxK X))) acc σ H fun out H1 => Q (.str out) H1
  | [], acc, σ, H, F, ρ, d, ρ', s, eg, k => by
    cases eg
    exact k (.str acc) F H ((Grow.refl s.sub).stp σ ρ) s (.str _)
  | g :: gs, acc, σ, H, F, ρ, d, ρ', s, eg, k => by
    obtain ⟨⟨x, ρ1⟩, e1, eg⟩ := bind_some eg
    obtain ⟨a, e3, eg⟩ := bind_some eg
    refine ⟨F, ρ, x, ρ1, s, e1, fun v F1 H1 p1 s1 r1 => ?_⟩
    replace e3 : jsD acc x = some a := e3
    unfold jsD at e3
    split at e3
    · skip
      split at e3
      · rename_i hz
        cases e3
        cases r1
        exact ⟨_, rfl, hz, js_q gs _ σ H1 F1 ρ1 d ρ' s1 eg fun v F' H' p s2 r => k v F' H' (p1.trans p) s2 r⟩
      · cases e3
    · cases e3
theorem de_js {v1 v2 : Expr} {rest : List Expr} {gs : List (Md D)} {pos : Pos} (h : DJ X (v1 :: v2 :: rest) gs) : DE X (.JoinedStr (v1 :: v2 :: rest) pos) (gJs gs Str.empty) :=
  pe_imp (pe_joined (dj_pj h)) fun σ H Q q => by
    obtain ⟨F, ρ, d, ρ', s, eg, k⟩ := q
    exact js_q gs Str.empty σ H F ρ d ρ' s eg k
end
end Dn
set_option maxHeartbeats 2000000
namespace Dn
open PySem PySem.Spec PyProof.Rows L2 DnSo SrtO
section
variable {X : Cx} {pos p : Pos} {x y : Str} {py : Pos}
def isS : D → Bool
  | .str _ => true
  | _ => false
def sortOkT (ds : List D) : Bool := decide (ds.length ≤ 16777216) && ds.all fun d => isS d && d.canLay0
def gSortU (g : Md D) : Md D := fun ρ => (g ρ).bind fun q => match q.1 with
  | .dict es => if es.isEmpty = false ∧ (es.all fun p => isKey p.1) = true ∧ sortOkT (es.map (·.1)) = true then some (.list ((es.map (·.1)).mergeSort leD3), q.2) else none
  | _ => none
end
end Dn
set_option maxHeartbeats 2000000
namespace Dn
open PySem PySem.Spec PyProof.Rows L2
def fillD (gt : D → Env → Option Env) (gT : D → List D → Env → Option (List D × Env)) (key : D) : List D → List D → Env → Option (List D × Env)
  | [], acc, ρ => some (acc, ρ)
  | d :: ds, acc, ρ => (gt d ρ).bind fun ρ1 => (gT key acc ρ1).bind fun q => fillD gt gT key ds q.1 q.2
def txtC : Option (Option Cell) → Option (Bool × List (D × D))
  | some (some (.own b (.tuple [.dict es]))) => some (b, es)
  | _ => none
def sFill (i : Nat) (gk : Md D) (gi : Md (List D)) (gt : D → Env → Option Env) (gT : D → List D → Env → Option (List D × Env)) : Sd := fun ρ => (txtC ρ[i]?).bind fun _ => (gk ρ).bind fun q => (txtC q.2[i]?).bind fun c =>
  if isKey q.1 = true ∧ c.2.length < 16777216 ∧ c.1 = false then
    (gi (q.2.set i none)).bind fun p => (fillD gt gT q.1 p.1 [] p.2).bind fun r => (setC i (.own false (.tuple [.dict (putU c.2 q.1 (.list r.1))])) r.2).bind fun ρ' => some (.nx, ρ')
  else none
end Dn
set_option maxHeartbeats 2000000
namespace Dn
open PySem PySem.Spec PyProof.Rows L2
section
variable {X : Cx} {x : Str} {pos p : Pos}
def sNewTD (i : Nat) (gs : List (Md D × Md D)) : Sd := fun ρ => (gKV gs ρ).bind fun p => if keysOk p.1 = true then (setC i (.own false (.tuple [.dict p.1])) p.2).bind fun r => some (.nx, r) else none
end
end Dn
set_option maxHeartbeats 2000000
namespace Dn
open PySem PySem.Spec PyProof.Rows L2
section
variable {X : Cx} {W : WX} {x n : Str} {c : Value} {i : Nat} {body suite : List Stmt} {b₀ : Stmt} {np pos pos' : Pos}
def clearN (i : Nat) (g : Sd) : Sd := fun ρ => if notOwn ρ i = true ∧ i < ρ.length then (g (ρ.set i none)).bind fun p => match p.1 with
  | .ret d => some (.ret d, p.2)
  | .nx => if notOwn p.2 i = true then some (.nx, p.2.set i none) else none
  | _ => none else none
/-- try: body / except x as n: suite, the suite returning or going on -/
def xTryN (i : Nat) (h : Str → Option Bool) (gb : Sx) (gs : Xc → Sd) : Sx := xTry h gb (fun x => clearN i (gs x))
end
end Dn
set_option maxHeartbeats 2000000
namespace Dm
open DnSo
open PySem Dn
section
variable {ρ : Dn.Env} {R : Fl → Dn.Env → Prop}
theorem wm_fmt {g : Md D} {Q : D → Dn.Env → Prop} : Wm (gFmt g) ρ Q ↔ Wm g ρ fun d ρ1 => Wo (fmtD d) fun z => Q z ρ1 := by
  unfold Wm gFmt
  simp only [wo_bind, wo_some]
theorem fmt_s {x : Str} : fmtD (.str x) = if x.length ≤ 16777216 then some (.str x) else none := rfl
theorem fmt_i {i : Int} : fmtD (.int i) = if i.natAbs.log2 < 1920 then some (.str (toString i)) else none := rfl
theorem js_s {a x : Str} : jsD a (.str x) = if (a ++ x).length ≤ 16777216 then some (a ++ x) else none := rfl
theorem wm_js0 {a : Str} {Q : D → Dn.Env → Prop} : Wm (gJs [] a) ρ Q ↔ Q (.str a) ρ := wo_some
theorem wm_js {a : Str} {g : Md D} {gs : List (Md D)} {Q : D → Dn.Env → Prop} : Wm (gJs (g :: gs) a) ρ Q ↔ Wm g ρ fun d ρ1 => Wo (jsD a d) fun z => Wm (gJs gs z) ρ1 Q := by
  unfold Wm
  show Wo ((g ρ).bind _) _ ↔ _
  simp only [wo_bind]
def srtU : D → Option D
  | .dict es => if es.isEmpty = false ∧ (es.all fun p => isKey p.1) = true ∧ sortOkT (es.map (·.1)) = true then some (.list ((es.map (·.1)).mergeSort leD3)) else none
  | _ => none
theorem wm_sortU {g : Md D} {Q : D → Dn.Env → Prop} : Wm (gSortU g) ρ Q ↔ Wm g ρ fun d ρ1 => Wo (srtU d) fun r => Q r ρ1 := by
  unfold Wm gSortU
  rw [wo_bind]
  refine Iff.of_eq (congrArg _ (funext fun p => ?_))
  obtain ⟨d, ρ1⟩ := p
  cases d with
  | dict es =>
    refine propext ?_
    show Wo (if _ then some _ else none) _ ↔ Wo (if _ then some _ else none) _
    split <;> simp only [wo_some, wo_none]
  | none => exact propext (wo_none.trans wo_none.symm)
  | bool _ => exact propext (wo_none.trans wo_none.symm)
  | int _ => exact propext (wo_none.trans wo_none.symm)
  | str _ => exact propext (wo_none.trans wo_none.symm)
  | list _ => exact propext (wo_none.trans wo_none.symm)
  | tuple _ => exact propext (wo_none.trans wo_none.symm)
def frzE (i : Nat) (ρ : Dn.Env) : Option (Option Cell) → Option (D × Dn.Env)
  | some (some (.val d)) => some (d, ρ)
  | some (some (.own false (.tuple [.dict es]))) => some (frzT es, ρ.set i (some (.val (frzT es))))
  | _ => none
theorem wm_fT {i : Nat} {Q : D → Dn.Env → Prop} : Wm (gFrzT i) ρ Q ↔ Wo (frzE i ρ ρ[i]?) fun p => Q p.1 p.2 := Iff.rfl
theorem fT_val {i : Nat} {d : D} : frzE i ρ (some (some (.val d))) = some (d, ρ) := rfl
theorem fT_own {i : Nat} {es : List (D × D)} : frzE i ρ (some (some (.own false (.tuple [.dict es])))) = some (frzT es, ρ.set i (some (.val (frzT es)))) := rfl
theorem ws_newT {i : Nat} : Ws (sNewT i) ρ R ↔ Wo (canSet ρ[i]?) fun _ => R .nx (ρ.set i (some (.own false (.tuple [.dict []])))) := by
  unfold Ws sNewT
  simp only [wo_bind, wo_some, setC_eq]
theorem txtC_own {b : Bool} {es : List (D × D)} : txtC (some (some (.own b (.tuple [.dict es])))) = some (b, es) := rfl
theorem ws_newTD {i : Nat} {gs : List (Md D × Md D)} : Ws (sNewTD i gs) ρ R ↔ Wm (gKV gs) ρ fun es ρ1 => keysOk es = true ∧ Wo (canSet ρ1[i]?) fun _ => R .nx (ρ1.set i (some (.own false (.tuple [.dict es])))) := by
  unfold Ws sNewTD Wm
  rw [wo_bind]
  refine Iff.of_eq (congrArg _ (funext fun p => propext ?_))
  by_cases h : keysOk p.1 = true
  · rw [if_pos h, wo_bind, setC_eq]
    simp only [wo_bind, wo_some, h, true_and]
  · rw [if_neg h, wo_none]
    simp [h]
theorem ws_fill {i : Nat} {gk : Md D} {gi : Md (List D)} {gt : D → Dn.Env → Option Dn.Env} {gT : D → List D → Dn.Env → Option (List D × Dn.Env)} : Ws (sFill i gk gi gt gT) ρ R ↔ Wo (txtC ρ[i]?) fun _ => Wm gk ρ fun k ρ1 => Wo (txtC ρ1[i]?) fun c =>
    (isKey k = true ∧ c.2.length < 16777216 ∧ c.1 = false) ∧ Wm gi (ρ1.set i none) fun ds ρ2 => Wo (fillD gt gT k ds [] ρ2) fun r => Wo (canSet r.2[i]?) fun _ => R .nx (r.2.set i (some (.own false (.tuple [.dict (putU c.2 k (.list r.1))])))) := by
  unfold Ws sFill Wm
  rw [wo_bind]
  refine Iff.of_eq (congrArg _ (funext fun _ => propext ?_))
  rw [wo_bind]
  refine Iff.of_eq (congrArg _ (funext fun q => propext ?_))
  rw [wo_bind]
  refine Iff.of_eq (congrArg _ (funext fun c => propext ?_))
  by_cases h : isKey q.1 = true ∧ c.2.length < 16777216 ∧ c.1 = false
  · rw [if_pos h]
    simp only [wo_bind, wo_some, setC_eq, h, true_and, and_self]
  · rw [if_neg h, wo_none]
    simp [h]
theorem fill_nil {gt : D → Dn.Env → Option Dn.Env} {gT : D → List D → Dn.Env → Option (List D × Dn.Env)} {key : D} {acc : List D} {Q : List D × Dn.Env → Prop} : Wo (fillD gt gT key [] acc ρ) Q ↔ Q (acc, ρ) := wo_some
def retN (i : Nat) (S : Fl → Dn.Env → Prop) : Fl → Dn.Env → Prop
  | .ret d, ρ => S (.ret d) ρ
  | .nx, ρ => notOwn ρ i = true ∧ S .nx (ρ.set i none)
  | _, _ => False
theorem retn_ret {i : Nat} {S : Fl → Dn.Env → Prop} {d : D} : retN i S (.ret d) ρ ↔ S (.ret d) ρ := Iff.rfl
theorem retn_nx {i : Nat} {S : Fl → Dn.Env → Prop} : retN i S .nx ρ ↔ notOwn ρ i = true ∧ S .nx (ρ.set i none) := Iff.rfl
theorem ws_clearN {i : Nat} {g : Sd} {S : Fl → Dn.Env → Prop} : Ws (clearN i g) ρ S ↔ (notOwn ρ i = true ∧ i < ρ.length) ∧ Ws g (ρ.set i none) (retN i S) := by
  unfold Ws clearN
  by_cases h : notOwn ρ i = true ∧ i < ρ.length
  · rw [if_pos h, wo_bind]
    simp only [h, and_self, true_and]
    refine Iff.of_eq (congrArg _ (funext fun p => ?_))
    obtain ⟨f, ρ1⟩ := p
    cases f with
    | ret d => exact propext wo_some
    | nx =>
      refine propext ?_
      show Wo (if notOwn ρ1 i = true then some (Fl.nx, ρ1.set i none) else none) _ ↔ notOwn ρ1 i = true ∧ S .nx (ρ1.set i none)
      by_cases hn : notOwn ρ1 i = true
      · rw [if_pos hn, wo_some]
        simp [hn]
      · rw [if_neg hn, wo_none]
        simp [hn]
    | brk => exact propext wo_none
    | cnt => exact propext wo_none
    | rof d => exact propext wo_none
  · rw [if_neg h, wo_none]
    simp [h]
theorem wx_tryN {i : Nat} {h : Str → Option Bool} {gb : Sx} {gs : Xc → Sd} {S : Fl → Dn.Env → Prop} {R : Xc → Dn.Env → Prop} : Wx (xTryN i h gb gs) ρ S R ↔ Wx gb ρ S fun x ρ1 => Wo (h x.c) fun b => if b = true then (notOwn ρ1 i = true ∧ i < ρ1.length) ∧ Ws (gs x) (ρ1.set i none) (retN i S) else R x ρ1 := by
  unfold xTryN
  rw [wx_try]
  simp only [ws_clearN]
end
end Dm
set_option maxHeartbeats 2000000
namespace Tw
open PySem PySem.W PySem.Calls PyProof.Rows PySem.HandSPX
structure OwnMadeN (h h' : Heap) (e C d : Addr) (v : Value) : Prop where
  keep : ∀ b o, h.get? b = some o → h'.get? b = some o
  new : h.objs.size ≤ e
  obj : ∃ oe vs, h'.get? e = some oe ∧ oe.cls = .ref C ∧ oe.dict = some d ∧ oe.data = .fields vs ∧ vs[1]? = some .none ∧ vs[2]? = some .none
  dbig : h.objs.size ≤ d
  dne : d ≠ e
  ns : h'.Ns1 d (fun y => if y = "message" then some v else none)
section
variable {prog : Program} {w : World} {A : Around} {E : Value → Shared → Prop} {R : Result → Shared → Prop} {s : Shared} {K : Frag} {mg : Str → Option Value} {n : Str} {C Tc fI : Addr}
theorem td_madeN (T : TdTxt prog K mg n C Tc fI) {v : Value} (X : K.In s.heap) (hg : s.heap.Ns mainGlobals mg) (hb : ∃ mb, s.heap.Ns builtinsNs mb ∧ ∀ x : Str, x ≠ "__name__" → mb x = bootBuiltins x) (hlim : s.heap.NoLimit) (hroom : A.depth + 1 < recursionLimit)
    (hq : ∀ h' tk e d, OwnMadeN s.heap h' e C d v → R (.ok (.ret (.ref e))) { s with heap := h', toks := tk }) :
    codeAny (model prog w) A (.call (.ref C) ⟨[v], []⟩) R s := by
  obtain ⟨nm, q, N, bs, bm, sn, sub, ab, col, dd, k0, k1, k2, k3, k5, hC, hbm⟩ := T.cls
  obtain ⟨hp, g, dr, tk, os⟩ := s
  have k : ∀ b o, hp.get? b = some o → ((hp.push (kdv_tup [v])).push (excO C hp.objs.size)).get? b = some o := fun b o e => Heap.get?_push_of_some _ (Heap.get?_push_of_some _ e)
  have hget : ((hp.push (kdv_tup [v])).push (excO C hp.objs.size)).get? (hp.objs.size + 1) = some (excO C hp.objs.size) := by heap_get
  have hnx : K.lookup (hp.objs.size + 1) = none := by
    cases e : K.lookup (hp.objs.size + 1) with
    | none => rfl
    | some o =>
      have z : hp.get? (hp.objs.size + 1) = some o := X _ _ e
      exact absurd (Nat.lt_of_succ_lt (Heap.lt_size z)) (Nat.lt_irrefl _)
  obtain ⟨mb, hb1, hb2⟩ := hb
  refine call_own F.excBase_ValueError (fun X => refsVE_contains X bm hbm) (X _ _ hC) (looks_findIn X T.iC) (fun self => bind_fn X self T.tC) (one_size v) ?_
  refine td_init (s := ⟨(hp.push (kdv_tup [v])).push (excO C hp.objs.size), g, dr, tk, os⟩) T (X.keeps k) (hg.keeps k) ⟨mb, hb1.keeps k, hb2⟩ (hlim.keeps k) hget hnx ?_ fun h' tk' dx ⟨k', hx, dn, dne, hns⟩ => ?_
  · show A.depth + 1 < recursionLimit
    exact hroom
  · have old : ∀ b o, hp.get? b = some o → h'.get? b = some o := fun b o e => k' b o (Nat.ne_of_lt (Nat.lt_succ_of_lt (Heap.lt_size e))) (k b o e)
    have z : hp.objs.size + 1 + 1 ≤ dx := by
      first
        | (simpa only [Heap.size_push] using dn)
        | exact dn
        | (have q := dn; rw [Heap.size_push, Heap.size_push] at q; exact q)
    obtain ⟨t1, hx⟩ := hx
    exact ⟨rfl, hq h' tk' (hp.objs.size + 1) dx ⟨old, Nat.le_succ _, ⟨_, _, hx, rfl, rfl, rfl, rfl, rfl⟩, Nat.le_trans (Nat.le_trans (Nat.le_succ _) (Nat.le_succ _)) z, dne, hns⟩⟩
end
end Tw
namespace L2
open PySem PySem.Spec PyProof.Rows
theorem Fun.okXN {P : Program} {w : World} {K : PySem.W.Frag} {mg : Str → Option Value} {base : Heap} {x qual : Str} {st : Stmt} {f : Addr} {fd : FuncData} {N ps : List Str} {k : Nat} {sp : Sp} (F : Fun K x qual st f fd) (S : FnScope N ps (defScope st)) (len : ∀ vs H Q E, sp vs H Q E → vs.length = ps.length)
    (hbody : ∀ (cdv : Value) (A : Around) (outer : List PySem.Env) (s : Shared) (H : Hp) (vs : List V) (Q : VK) (E : XK), Room k (A.deeper (envOfC qual (defScope st) s.heap.objs.size f cdv)) → sp vs H Q E →
      ∃ t, PSs (cxOf (L2N.CX P w) P w K mg base N qual (defScope st) f cdv A outer s H E) (defBody st) t ∧ t { nx := fun _ H' => Q .non H', rt := Q } (start N vs) H) : FnOk P w K mg base (L2N.CX P w) (k + 1) f fd ps sp := by
  obtain ⟨oc, od, kV, doc, pm, an, cdv, ct, osl, rfl, lk, hcd⟩ := F.ex
  exact fn_of lk hcd S len fun A outer s H vs Q E hr hsp => hbody cdv A outer s H vs Q E hr hsp
section
variable {X : Cx} {C Tc fI : Addr} {n : Str}
theorem pmk_tdN {a : Expr} {ta : TA} {p pos : Pos} {k : Nat} (T : Tw.TdTxt X.prog X.K X.mg n C Tc fI) (hr : Room k X.A) (ha : PA X [a] ta) (hg : Gl X n) (hdb : (n == ("__debug__" : Str)) = false := by decide)
    (he : starEach (a :: []) X.env = (false, eval a X.env) :: starEach [] X.env := by rfl) (hpl : (backTo pos (starEach [] X.env)).any (·.1) = false := by rfl) :
    L2N.PMk X (.Call (.Name n p) [a] [] pos) (tMkTd C ta) := by
  intro pins s σ H Q I h
  refine wpAny_Call_Name_kw (ld_glob I hg T.gC ?_ hdb)
  refine PySem.W.callWith_K (h₀ := X.base) I.ok.mod.kin T.kC (thn (ha.run pos pins s σ H _ I h) fun us s1 hh => ?_) he hpl
  obtain ⟨vs, H1, I1, r1, v, ev, q1⟩ := hh
  subst ev
  refine ⟨I1.kIn, ?_⟩
  cases r1 with
  | cons rv rn =>
    rename_i v' us'
    cases rn
    show wpAny _ _ (call (.ref C) [v']) _ _ _
    have hlim := I1.nolimit
    obtain ⟨mb, hb1, hb2⟩ := I1.ok.mod.blt
    have hgl := I1.ok.mod.glob.keeps I1.bk
    have hbl := hb1.keeps I1.bk
    obtain ⟨hp, g, dr, tk, os⟩ := s1
    refine wpAny_call (Tw.td_madeN T I1.kIn hgl ⟨mb, hbl, hb2⟩ hlim (by have := hr.dp; omega) fun h' tk' e d M => ?_)
    show L2N.MkP X pins σ Q (.ref e) ⟨h', g, dr, tk', os⟩
    obtain ⟨oe, fv, hoe, hc, hd, hdat, h1, h2⟩ := M.obj
    have hns := M.ns
    obtain ⟨G', g1, g2⟩ := restrict h' fun b => decide (b ≠ e)
    have gk : ∀ b, b ≠ e → G'.get? b = h'.get? b := fun b hb => g1 b (decide_eq_true hb)
    have ge : G'.get? e = none := g2 e (by simp)
    have old : ∀ b o, hp.get? b = some o → G'.get? b = some o := fun b o q => (gk b (Nat.ne_of_lt (Nat.lt_of_lt_of_le (Heap.lt_size q) M.new))).trans (M.keep b o q)
    have ob : ObjOk X.prog X.w (upd H1 d (.xd [(("message" : Str), v)])) G' d (.xd [(("message" : Str), v)]) :=
      ⟨_, hns.at (fun o q => (gk d M.dne).trans q), fun f => relO_td rv f⟩
    have J : Inv X pins σ (upd H1 d (.xd [(("message" : Str), v)])) ⟨G', g, dr, tk', os⟩ := I1.laid (t' := tk') old M.dbig ob
    refine ⟨e, oe, fv, ⟨G', g, dr, tk', os⟩, _, .ref C, some d, rfl, J, fun b o q => ?_, ge, hoe, ⟨hc, hd, fun vs z => by rw [hdat] at z; cases z; exact h2⟩, hdat, h1, ?_, rfl, I1.bare, raises_own T.exC T.tyC, q1 d (I1.hok.fresh M.dbig)⟩
    · by_cases hb : b = e
      · have q' : G'.get? b = some o := q
        rw [hb, ge] at q'; cases q'
      · exact (gk b hb).symm.trans q
    · rw [upd_ne (Ne.symm M.dne)]
      exact I1.hok.fresh M.new
theorem pmk_tdH {a : Expr} {ta : TA} {p pos : Pos} {k : Nat} (T : Tw.TdTxt X.prog X.K X.mg n C Tc fI) (hr : L2H.RoomH k X.A) (ha : PA X [a] ta) (hg : Gl X n) (hdb : (n == ("__debug__" : Str)) = false := by decide)
    (he : starEach (a :: []) X.env = (false, eval a X.env) :: starEach [] X.env := by rfl) (hpl : (backTo pos (starEach [] X.env)).any (·.1) = false := by rfl) :
    L2N.PMk X (.Call (.Name n p) [a] [] pos) (tMkTd C ta) := by
  intro pins s σ H Q I h
  refine wpAny_Call_Name_kw (ld_glob I hg T.gC ?_ hdb)
  refine PySem.W.callWith_K (h₀ := X.base) I.ok.mod.kin T.kC (thn (ha.run pos pins s σ H _ I h) fun us s1 hh => ?_) he hpl
  obtain ⟨vs, H1, I1, r1, v, ev, q1⟩ := hh
  subst ev
  refine ⟨I1.kIn, ?_⟩
  cases r1 with
  | cons rv rn =>
    rename_i v' us'
    cases rn
    show wpAny _ _ (call (.ref C) [v']) _ _ _
    have hlim := I1.nolimit
    obtain ⟨mb, hb1, hb2⟩ := I1.ok.mod.blt
    have hgl := I1.ok.mod.glob.keeps I1.bk
    have hbl := hb1.keeps I1.bk
    obtain ⟨hp, g, dr, tk, os⟩ := s1
    refine wpAny_call (Tw.td_madeN T I1.kIn hgl ⟨mb, hbl, hb2⟩ hlim (by have := hr.dp; omega) fun h' tk' e d M => ?_)
    show L2N.MkP X pins σ Q (.ref e) ⟨h', g, dr, tk', os⟩
    obtain ⟨oe, fv, hoe, hc, hd, hdat, h1, h2⟩ := M.obj
    have hns := M.ns
    obtain ⟨G', g1, g2⟩ := restrict h' fun b => decide (b ≠ e)
    have gk : ∀ b, b ≠ e → G'.get? b = h'.get? b := fun b hb => g1 b (decide_eq_true hb)
    have ge : G'.get? e = none := g2 e (by simp)
    have old : ∀ b o, hp.get? b = some o → G'.get? b = some o := fun b o q => (gk b (Nat.ne_of_lt (Nat.lt_of_lt_of_le (Heap.lt_size q) M.new))).trans (M.keep b o q)
    have ob : ObjOk X.prog X.w (upd H1 d (.xd [(("message" : Str), v)])) G' d (.xd [(("message" : Str), v)]) :=
      ⟨_, hns.at (fun o q => (gk d M.dne).trans q), fun f => relO_td rv f⟩
    have J : Inv X pins σ (upd H1 d (.xd [(("message" : Str), v)])) ⟨G', g, dr, tk', os⟩ := I1.laid (t' := tk') old M.dbig ob
    refine ⟨e, oe, fv, ⟨G', g, dr, tk', os⟩, _, .ref C, some d, rfl, J, fun b o q => ?_, ge, hoe, ⟨hc, hd, fun vs z => by rw [hdat] at z; cases z; exact h2⟩, hdat, h1, ?_, rfl, I1.bare, raises_own T.exC T.tyC, q1 d (I1.hok.fresh M.dbig)⟩
    · by_cases hb : b = e
      · have q' : G'.get? b = some o := q
        rw [hb, ge] at q'; cases q'
      · exact (gk b hb).symm.trans q
    · rw [upd_ne (Ne.symm M.dne)]
      exact I1.hok.fresh M.new
end
end L2
namespace Dn
open PySem PySem.Spec PyProof.Rows L2
section
variable {X : Cx} {W : WX} {e a b c : Expr} {es : List Expr} {pos p : Pos} {x : Str} {st : Stmt} {sts : List Stmt}
theorem ex_callN {k n : Nat} {f : Addr} {fd : FuncData} {ps : List Str} {g : List D → Option (D ⊕ Xc)} {gs : Mx (List D)} (tk : L2N.Takes X W) (G : FnOk X.prog X.w X.K X.mg X.base (L2N.CX X.prog X.w) k f fd ps (spX (cxK X) X.mg n g)) (hr : Room k X.A) (hg : Gl X x) (hm : X.mg x = some (.ref f)) (hk : PySem.W.keepIn X.K (.ref f) = true) (hb : Binds X.K fd ps [])
    (ha : AX X W (e :: es) gs) (hlen : ∀ ρ ds ρ', gs ρ = some (.inl ds, ρ') → ds.length = n)
    (hdb : (x == ("__debug__" : Str)) = false := by decide) (he : starEach (e :: es) X.env = (false, eval e X.env) :: starEach es X.env := by rfl) (hpl : (backTo pos (starEach es X.env)).any (·.1) = false := by rfl) : EX X W (.Call (.Name x p) (e :: es) [] pos) (xCall g gs) :=
  pe_imp (pe_callS (E := WE W) G hr hg hm hk hb (fun σ => L2N.passAt tk σ) ha hdb he hpl) fun σ H Q q => by
    obtain ⟨F, ρ, r, ρ', s, eg, k⟩ := q
    rcases xb_some eg with ⟨ds, ρ1, e1, eg1⟩ | ⟨x, e1, rfl⟩
    · obtain ⟨e2, rfl⟩ := xl_some eg1
      refine ⟨F, ρ, _, _, s, e1, fun F1 H1 p1 s1 vs r1 => ⟨by rw [da_len r1]; exact hlen _ _ _ e1, F1, ds, r, s1.sub, r1, e2, fun F3 H3 gr => ?_⟩⟩
      have z := k F3 H3 (p1.trans (gr.stp σ _)) (s1.grow gr)
      cases r with
      | inl d => exact z
      | inr x => exact z
    · exact ⟨F, ρ, _, _, s, e1, fun F1 H1 p1 s1 => k F1 H1 p1 s1⟩
end
section
variable {X : Cx} {W : WX} {e a b c tg iter : Expr} {es : List Expr} {pos p : Pos} {x : Str} {st : Stmt} {sts : List Stmt}
theorem sx_raiseN {n : Str} {C Tc fI : Addr} {g : Md D} {k : Nat} {pos2 : Pos} (hc : X.calm = true) (T : Tw.TdTxt X.prog X.K X.mg n C Tc fI) (hr : Room k X.A) (tk : L2N.Takes X W) (ha : DE X a g) (hg : Gl X n) (hdb : (n == ("__debug__" : Str)) = false := by decide)
    (he : starEach (a :: []) X.env = (false, eval a X.env) :: starEach [] X.env := by rfl) (hpl : (backTo pos (starEach [] X.env)).any (·.1) = false := by rfl) : SX X W (.Raise (some (.Call (.Name n p) [a] [] pos)) none pos2) (xRaise n g) :=
  ps_imp (L2N.ps_raise hc tk (pmk_tdN T hr (pa_cons ha pa_nil (by exact he)) hg hdb he hpl)) fun E σ H q => by
    obtain ⟨F, ρ, r, ρ', s, eg, k⟩ := q
    obtain ⟨⟨d, ρ1⟩, e1, eg1⟩ := bind_some eg
    cases d with
    | str m =>
      cases eg1
      refine ⟨F, ρ, _, _, s, e1, fun v F1 H1 p1 s1 r1 => ⟨v, rfl, fun dd hdd => ?_⟩⟩
      cases r1
      have gr : Grow F1 H1 F1 (upd H1 dd (xdM m)) := Grow.own s1.sub hdd
      -- the wish is told of this very object
      refine k σ F1 _ (p1.trans (gr.stp σ _)) (s1.grow gr) C dd T.gC upd_same
    | none => cases eg1
    | bool _ => cases eg1
    | int _ => cases eg1
    | list _ => cases eg1
    | tuple _ => cases eg1
    | dict _ => cases eg1
end
section
variable {P : Program} {w : World} {K : PySem.W.Frag} {mg : Str → Option Value} {base : Heap}
theorem fn_XN {x qual : Str} {st : Stmt} {f : Addr} {fd : FuncData} {N ps : List Str} {k : Nat} {g : Sx} (Fn : Fun K x qual st f fd) (S : FnScope N ps (defScope st))
    (hbody : ∀ (cdv : Value) (A : Around) (outer : List PySem.Env) (s : Shared) (H : Hp) (E : XK), Room k (A.deeper (envOfC qual (defScope st) s.heap.objs.size f cdv)) → SXs (cxOf (L2N.CX P w) P w K mg base N qual (defScope st) f cdv A outer s H E) (fun cls d _ H => E cls d H) (defBody st) g) :
    FnOk P w K mg base (L2N.CX P w) (k + 1) f fd ps (spX ⟨K, P, w⟩ mg ps.length (runX N.length g)) := by
  refine Fn.okXN S (fun vs H Q E h => h.1) fun cdv A outer s H vs Q E hr h => ⟨_, hbody cdv A outer s H E hr, ?_⟩
  obtain ⟨_, F, ds, r, sf, hd, ef, k⟩ := h
  obtain ⟨⟨fl, ρ'⟩, e1, e2⟩ := bind_some ef
  refine ⟨F, envV N.length ds, fl, ρ', st_vals sf hd, e1, fun σ' F' H' p s' => ?_⟩
  have gr := stp_grow p s'
  cases fl with
  | inr x =>
    cases e2
    exact k F' H' gr
  | inl fl =>
    cases fl with
    | nx =>
      cases e2
      exact k F' H' gr .non .non
    | ret d =>
      cases e2
      exact fun v rv => k F' H' gr v rv
    | rof d => cases e2
    | brk => cases e2
    | cnt => cases e2
end
section
variable {X : Cx} {pins : List (Addr × Obj)} {σ : L2.St} {H : Hp} {s s' : Shared} {E : XK}
/-- a call's exception: in flight over X's frames, over a state without it -/
theorem fly_of_callN (I : Inv X pins σ H s) {u : Value} (c : L2N.CX X.prog X.w X.stack H s E u s') :
    ∃ (a : Addr) (B : Heap) (sI : Shared) (H' : Hp) (cls : Value) (d : Option Addr), u = .ref a ∧ Inv X pins σ H' sI ∧ (∀ b o, sI.heap.get? b = some o → b ∉ frs X.stack → B.get? b = some o) ∧ sI.heap.UpToSlots s'.heap ∧
      HandSPX.FlyingZ B X.stack a (L2N.Zn cls d) s'.heap ∧ H' a = none ∧ s'.os = sI.os ∧ AllBare s'.gens ∧ E cls d H' := by
  obtain ⟨a, B, H', cls, d, rfl, fl, hok, ub, na, os, ag, hE⟩ := c
  obtain ⟨G, g1, g2⟩ := restrict s'.heap fun b => (B.get? b).isSome || decide (b ∈ frs X.stack)
  have st : B.StaysIn s'.heap := fl.1
  have gB : ∀ b o, B.get? b = some o → G.get? b = some o := fun b o e => by
    rw [g1 b (by simp [e])]
    exact st b o e
  have gF : ∀ b, b ∈ frs X.stack → G.get? b = s'.heap.get? b := fun b hb => g1 b (by simp [hb])
  have og : ∀ b o, G.get? b = some o → s'.heap.get? b = some o ∧ ((B.get? b).isSome = true ∨ b ∈ frs X.stack) := fun b o e => by
    cases q : ((B.get? b).isSome || decide (b ∈ frs X.stack)) with
    | false => rw [g2 b q] at e; cases e
    | true =>
      rw [g1 b q] at e
      exact ⟨e, by simpa [Bool.or_eq_true] using q⟩
  refine ⟨a, B, { s with heap := G, gens := s'.gens, drawn := s'.drawn, toks := s'.toks }, H', cls, d, rfl, ?_, fun b o e hb => ?_, Heap.UpToSlots.of_keeps fun b o e => (og b o e).1, fl, na, os, ag, hE⟩
  · refine I.call (ch := []) ⟨fun b o e n hb _ => gB b o (ub.keep b o e n hb), fun b o e n hb _ => ?_, fun b o e n _ => ub.free b o e n, fun b o e _ => ?_, ub.tups, ub.frzs, ub.tbls⟩ (hok.kept gB) ag (fun _ z => nomatch z)
    · obtain ⟨sl, q⟩ := ub.slot b o e hb
      exact ⟨sl, by rw [gF b hb]; exact q⟩
    · by_cases hb : b ∈ frs X.stack
      · obtain ⟨sl, q⟩ := ub.slot b o e hb
        exact ⟨_, by rw [gF b hb]; exact q⟩
      · obtain ⟨o', q⟩ := ub.there b o e hb
        exact ⟨o', gB b o' q⟩
  · obtain ⟨e', h⟩ := og b o e
    rcases h with h | h
    · obtain ⟨o', q⟩ := Option.isSome_iff_exists.mp h
      have z := st b o' q
      rw [e'] at z; cases z
      exact q
    · exact absurd h hb
end
section
variable {X : Cx} {pins : List (Addr × Obj)} {σ : L2.St} {H : Hp} {s s' : Shared} {E : XK}
/-- an exception out of a call within the block: noted in the frame, the block's variables let go, passed on -/
theorem block_outN {W : WX} {s3 : Shared} {H3 : Hp} {scope : Scope} {ce : PySem.Env} {fp : List Addr} {xe : Value → Shared → Prop} {pinsB : List (Addr × Obj)} {σ5 : L2.St} {H5 : Hp} {s5 s6 : Shared} {use : Option (Value → Sem Unit)} {Qf : Value → Shared → Prop} {acc : Value} {u : Value}
    (tk : L2N.Takes X W) (hst : X.stack = X.env :: X.outer) (hf : X.env.frame = some X.env.locals) (I3 : Inv X pins σ H3 s3) (cL : ce.locals = s3.heap.objs.size) (cF : ce.frame = X.env.frame) (hfp : ∀ b ∈ fp, FpOk X pins H3 b)
    (I5 : Inv (blkX X s3 H3 scope ce fp xe) pinsB σ5 H5 s5) (c : L2N.CX X.prog X.w X.stack H5 s5 (fun cls d H => W cls d σ H) u s6) :
    notedBy (model X.prog X.w) X.A ce (fun e s' => postF (model X.prog X.w) X.A X.xe use Qf acc s3.heap.objs.size X.env.frame (.error e) s') u s6 := by
  obtain ⟨a, B, sI, H', cls, d, rfl, II, nb, up, fl, na, os, ag, hW⟩ := fly_of_callN (X := blkX X s3 H3 scope ce fp xe) I5 c
  have hfr : X.A.frames = some (X.env :: X.outer) := by rw [I3.ok.frames, hst]
  have fl : HandSPX.FlyingZ B (X.env :: X.outer) a (L2N.Zn cls d) s6.heap := by rw [← hst]; exact fl
  unfold notedBy
  rw [note_eq cF]
  refine PXN.looks_onZ L2N.Zn.steady hfr hf fl fun h1 held up1 => ?_
  -- the block's variables
  obtain ⟨m, hn, _⟩ := II.loc
  have hn : sI.heap.Ns ce.locals m := hn
  rw [cL] at hn
  obtain ⟨oC, es, ep, hC, hd, hk⟩ := hn
  have nf : ∀ vs, oC.data ≠ .fields vs := fun vs z => by rw [hd] at z; cases z
  obtain ⟨sl1, e1⟩ := up _ _ hC nf
  obtain ⟨sl2, e2⟩ := up1 _ _ e1 nf
  have nC3 : H3 s3.heap.objs.size = none := I3.hok.fresh (Nat.le_refl _)
  have fC := I3.fpOk (Nat.le_refl _) nC3
  have Cst : s3.heap.objs.size ∉ frs X.stack := fun z => by
    rcases List.mem_cons.mp (I3.stkSub _ z) with y | y
    · exact fC.2.1 y
    · exact fC.2.2.1 y
  have nC : H' s3.heap.objs.size = none := by
    have z : H' ce.locals = none := II.free
    rw [cL] at z
    exact z
  have BC : B.get? s3.heap.objs.size = some oC := nb _ _ hC Cst
  have aC : a ≠ s3.heap.objs.size := fun z => by
    have := fl.2.1
    rw [z, BC] at this
    cases this
  refine ⟨m, ⟨_, es, ep, e2, hd, hk⟩, fun h2 sb cenv _ hcf => ?_⟩
  -- the ground without the block's variables
  have k2 : ∀ b, b ≠ s3.heap.objs.size → h2.get? b = h1.get? b := fun b hb => sb.2 b hb
  obtain ⟨hk1, hk2, hk3, oe, vs, T, oT, ts, he, hz, hdt, h1v, hnT, hTe, hT, hdT, h3⟩ := held
  have TC : T ≠ s3.heap.objs.size := fun z => by rw [z, BC] at hnT; cases hnT
  have held2 : HandSPX.HeldZ (PySem.W.hideAll B [s3.heap.objs.size]) (X.env :: X.outer) a (L2N.Zn cls d) X.env.locals h2 := by
    have sub : ∀ b o, (PySem.W.hideAll B [s3.heap.objs.size]).get? b = some o → B.get? b = some o ∧ b ≠ s3.heap.objs.size := fun b o e => ⟨PySem.W.of_hideAll _ e, fun z => by
      rw [PySem.W.hideAll_none _ (by rw [z]; exact List.mem_cons_self)] at e
      cases e⟩
    have none_of : ∀ b, B.get? b = none → (PySem.W.hideAll B [s3.heap.objs.size]).get? b = none := fun b e => by
      cases q : (PySem.W.hideAll B [s3.heap.objs.size]).get? b with
      | none => rfl
      | some o =>
        have := (sub b o q).1
        rw [e] at this
        cases this
    refine ⟨fun b o e => ?_, none_of _ hk2, funFrames_none (base := B) ?_ fun L hL => none_of L (hk3.mem hL).1, oe, vs, T, oT, ts, (k2 a aC).trans he, hz, hdt, h1v, none_of _ hnT, hTe, (k2 T TC).trans hT, hdT, h3⟩
    · obtain ⟨e', n⟩ := sub b o e
      exact (k2 b n).trans (hk1 b o e')
    · refine funFrames_at hk3 fun b hb => k2 b fun z => Cst (by rw [hst, ← z]; exact hb)
  unfold PySem.passOn
  refine wpAny_bind (wpAny_field ((k2 a aC).trans he) hdt h1v ?_)
  rw [if_neg (show ¬ ((Value.ref T == Value.none) = true) from by simp)]
  rw [hcf, hf]
  refine wpAny_bind (HandSPX.setFlight_onZ held2 fun h4 held4 up4 => ?_)
  refine wpAny_throw (tk _ _ ?_)
  refine ⟨a, PySem.W.hideAll B [s3.heap.objs.size], { sI with heap := PySem.W.hideAll sI.heap [s3.heap.objs.size] }, pins, σ, H', cls, d, rfl, ?_, fun b o e hb => ?_, fun b o e n => ?_, .inr (.inr (by rw [hst]; exact held4)), na, os, ag, hW⟩
  · -- back in the def's context
    have subI : ∀ b o, b ≠ s3.heap.objs.size → sI.heap.get? b = some o → (PySem.W.hideAll sI.heap [s3.heap.objs.size]).get? b = some o := fun b o n e => PySem.W.hideAll_get _ e (by simpa using n)
    have lt3 : ∀ b o, s3.heap.get? b = some o → b ≠ s3.heap.objs.size := fun b o e => Nat.ne_of_lt (Heap.lt_size e)
    have bs : Un (frs X.stack) fp H3 H' s3.heap sI.heap := II.base
    refine I3.call' (ch := fp) II.os ⟨fun b o e n hb hc => subI b o (lt3 b o e) (bs.keep b o e n hb hc), fun b o e n hb hc => ?_, bs.free, fun b o e hc => ?_, bs.tups, bs.frzs, bs.tbls⟩ (fun b o e => (II.hok b o e).stay (fun c v hc q => subI c v (fun z => ?_) q) (fun _ q => q) fun _ _ q => q) II.bare fun b hb => ⟨(hfp b hb).2.2.2.1, (hfp b hb).2.1, (hfp b hb).2.2.2.2.1, (hfp b hb).2.2.2.2.2⟩
    · obtain ⟨sl, q⟩ := bs.slot b o e n hb hc
      exact ⟨sl, subI b _ (lt3 b o e) q⟩
    · obtain ⟨o', q⟩ := bs.there b o e hc
      exact ⟨o', subI b _ (lt3 b o e) q⟩
    · rcases hc with hc | hc
      · rw [← hc, z, nC] at e; cases e
      · rw [z, nC] at hc; cases hc
  · have e' := PySem.W.of_hideAll _ e
    have n : b ≠ s3.heap.objs.size := fun z => by
      rw [PySem.W.hideAll_none _ (by rw [z]; exact List.mem_cons_self)] at e
      cases e
    exact PySem.W.hideAll_get _ (nb b o e' hb) (by simpa using n)
  · have e' := PySem.W.of_hideAll _ e
    have hb : b ≠ s3.heap.objs.size := fun z => by
      rw [PySem.W.hideAll_none _ (by rw [z]; exact List.mem_cons_self)] at e
      cases e
    obtain ⟨t1, q1⟩ := up b o e' n
    obtain ⟨t2, q2⟩ := up1 b _ q1 n
    obtain ⟨t3, q3⟩ := up4 b _ ((k2 b hb).trans q2) n
    exact ⟨t3, q3⟩
end
section
variable {X : Cx}
/-- the element, within the block, under the wish W at the slots σ0 ahead of it -/
abbrev PExN (X : Cx) (W : WX) (scope : Scope) (elt : Expr) (te : L2.St → TE) : Prop := ∀ (σ0 : L2.St) (s : Shared) (H : Hp) (C : Addr) (cl : List (Str × Addr)) (fp : List Addr) (xe : Value → Shared → Prop),
  (∀ σ, PassesAt (L2N.CX X.prog X.w) (blkX X s H scope (compEnvC scope cl C X.env) fp xe) σ (fun cls d H => W cls d σ0 H)) → PE (blkX X s H scope (compEnvC scope cl C X.env) fp xe) elt (te σ0)
end
section
variable {X : Cx}
theorem lc_coreXN {W : WX} {pins : List (Addr × Obj)} {s : Shared} {σ : L2.St} {H : Hp} {Q : VK} {elt tg iter : Expr} {ifs : List Expr} {scope : Scope} {own : List (Str × Nat)} {pos pos' : Pos} {wi : TI} {g : TG} {tt : TT} {te : L2.St → TE} {use : Option (Value → Sem Unit)} {Qf : Value → Shared → Prop}
    (tk : L2N.Takes X W) (hst : X.stack = X.env :: X.outer) (hf : X.env.frame = some X.env.locals)
    (hc : X.calm = true) (hN : X.N.Nodup) (I : Inv X pins σ H s) (hi : PI X tg iter wi) (ok : BlkOk X.N X.env.scope scope own)
    (hg : ∀ (s : Shared) (H : Hp) (C : Addr) (cl : List (Str × Addr)) (fp : List Addr), PG (X.blk s H scope (compEnvC scope cl C X.env) fp) tg g) (ht : ∀ (s : Shared) (H : Hp) (C : Addr) (cl : List (Str × Addr)) (fp : List Addr), PTs (X.blk s H scope (compEnvC scope cl C X.env) fp) ifs tt)
    (he : PExN X W scope elt te) (hs : ∀ x, foldedSetIterable iter X.env x = pure x)
    (h : tLcX wi g tt te (own.map (·.2)) σ H Q)
    (hRR : ∀ D C s' m H', Inv X pins σ H' s' → Q (.ref D) H' → s'.heap.Ns C m → FpOk X pins H' C → postF (model X.prog X.w) X.A X.xe use Qf (.ref D) C X.env.frame (.ok .next) s') :
    wpAny (model X.prog X.w) X.A (comprehension (.ListComp elt [⟨tg, iter, ifs, 0⟩] scope pos) scope X.env pos' (newList []) false (eval iter X.env) use) Qf X.xe s := by
  have hfree : ∀ y ∈ scope.names, y.2 = .free → ∃ c, X.env.cells.lookup y.1 = some c := fun y hy e => by
    rcases ok.free y hy e with k | k
    · exact I.ok.has _ (.inl k)
    · exact I.ok.has _ (.inr k)
  refine comp_freeF (use := use) rfl hs (closure_ok hfree) ok.kind (fun y hy e => by rw [ok.uniq y hy, e])
    (thn (hi.run pins s σ H _ I h) fun xv s1 hx => thn hx fun itv s2 h2 => ?_)
  obtain ⟨it, fp, tn, J, H2, e, I2, T, st2, f2, q⟩ := h2
  subst e
  refine wpAny_newObj_type (newEnv_comp ?_) (by show 0 ≤ sizeLine; decide)
  generalize hD : s2.heap.objs.size = D
  have hDn : H2 D = none := I2.hok.fresh (Nat.le_of_eq hD)
  obtain ⟨WW, ⟨m0, w0⟩, turn⟩ := q D hDn
  -- the new list
  generalize hs3 : ({ s2 with heap := s2.heap.push { cls := .type "list", data := .seq ([] : List Value).toArray } } : Shared) = s3
  have I3 : Inv X pins σ (upd H2 D (.lst [])) s3 := by
    rw [← hs3]
    refine I2.laid (t' := s2.toks) (fun b o e => Heap.get?_push_of_some _ e) (Nat.le_of_eq hD) ⟨Nat.zero_le _, [], 0, .nil, ?_⟩
    rw [← hD]
    exact Heap.get?_push_size _ rfl
  have h3 : s3.heap = s2.heap.push { cls := .type "list", data := .seq ([] : List Value).toArray } := by rw [← hs3]
  have sz : ∀ b ∈ fp, b < s2.heap.objs.size := fun b hb => by
    obtain ⟨o, e, _⟩ := T.obj _ _ st2 b hb
    exact Heap.lt_size e
  have f3 : ∀ b ∈ fp, FpOk X pins (upd H2 D (.lst [])) b ∧ b < s3.heap.objs.size := fun b hb => by
    have hlt := sz b hb
    refine ⟨⟨?_, (f2 b hb).2⟩, by rw [h3, Heap.size_push]; exact Nat.lt_succ_of_lt hlt⟩
    rw [upd_ne (by rw [← hD]; exact Nat.ne_of_lt hlt)]
    exact (f2 b hb).1
  have st3 : tn 0 s3.heap := T.keep _ _ _ st2 fun b _ o e => by rw [h3]; exact Heap.get?_push_of_some _ e
  have I4 := block_start I3 ok hN f3
  have pg := hg s3 (upd H2 D (.lst [])) s3.heap.objs.size (cellsFrom (s3.heap.objs.size + 1) scope.names (cloFrom X.env.cells scope.names [])) fp
  have pt := ht s3 (upd H2 D (.lst [])) s3.heap.objs.size (cellsFrom (s3.heap.objs.size + 1) scope.names (cloFrom X.env.cells scope.names [])) fp
  have pe := he σ s3 (upd H2 D (.lst [])) s3.heap.objs.size (cellsFrom (s3.heap.objs.size + 1) scope.names (cloFrom X.env.cells scope.names [])) fp
  show codeAny _ _ (.compStart (.ListComp elt [⟨tg, iter, ifs, 0⟩] scope pos) 0 (.ref it) (.ref D) (compEnvC scope (cellsFrom (s3.heap.objs.size + 1) scope.names (cloFrom X.env.cells scope.names [])) s3.heap.objs.size X.env)) (postF (model X.prog X.w) X.A X.xe use Qf (.ref D) s3.heap.objs.size X.env.frame) { s3 with heap := pushCells (s3.heap.push { cls := .type "dict", data := .dict #[] }) scope.names }
  have nfp : ∀ b ∈ fp, (upd H2 D (.lst [])) b = none := fun b hb => (f3 b hb).1.1
  generalize hce : compEnvC scope (cellsFrom (s3.heap.objs.size + 1) scope.names (cloFrom X.env.cells scope.names [])) s3.heap.objs.size X.env = ce at I4 pg pt pe ⊢
  have cL : ce.locals = s3.heap.objs.size := by subst hce; rfl
  have cF : ce.frame = X.env.frame := by subst hce; rfl
  generalize hH3 : upd H2 D (.lst []) = H3 at I3 I4 pg pt pe w0 nfp f3
  generalize hs4 : ({ s3 with heap := pushCells (s3.heap.push { cls := .type "dict", data := .dict #[] }) scope.names } : Shared) = s4 at I4 ⊢
  have st4 : tn 0 s4.heap := T.keep _ _ _ st3 fun b _ o e => by rw [← hs4]; exact pushCells_keeps _ _ _ _ (Heap.get?_push_of_some _ e)
  have stat : ∀ {σ' : L2.St} {H' : Hp} {s' : Shared}, Inv (X.blk s3 H3 scope ce fp) [] σ' H' s' → (∀ b ∈ fp, H' b = none) → ∀ b ∈ fp, FpOk (X.blk s3 H3 scope ce fp) [] H' b := fun {σ' H' s'} I' hn b hb =>
    ⟨hn b hb, (I'.ok.exf b hb).1, I'.ok.exfs b hb, .inl hb, fun x c e => (I'.ok.exf b hb).2 x c e, fun p hp => absurd (show p ∈ ([] : List (Addr × Obj)) ++ [] from hp) (by simp)⟩
  generalize hxe : (notedBy (model X.prog X.w) X.A ce fun e s' => postF (model X.prog X.w) X.A X.xe use Qf (.ref D) s3.heap.objs.size X.env.frame (.error e) s') = xe
  have pe := pe xe fun σ' pinsB H5 s5 u s6 I5 c => by
    show xe u s6
    rw [← hxe]
    exact block_outN tk hst hf I3 cL cF (fun b hb => (f3 b hb).1) I5 c
  have loop : codeAny (model X.prog X.w) X.A (.compLoop (.ListComp elt [⟨tg, iter, ifs, 0⟩] scope pos) 0 (.ref it) (.ref D) ce) (postF (model X.prog X.w) X.A X.xe use Qf (.ref D) s3.heap.objs.size X.env.frame) s4 := by
    refine compLoop_any (fun n s' => ∃ i H', Inv (X.blk s3 H3 scope ce fp) [] (wipe σ (own.map (·.2))) H' s' ∧ tn i s'.heap ∧ (∀ b ∈ fp, H' b = none) ∧ WW i n H') ?_ m0 ⟨0, H3, I4, st4, nfp, w0⟩
    rintro n s5 ⟨i, H5, I5, st5, n5, w5⟩
    rcases turn i n H5 w5 with ⟨stop, qq⟩ | ⟨go, Nx, hNx, step⟩
    · have td := T.done (X.blk s3 H3 scope ce fp) rfl rfl rfl hc i [] s5 _ H5 (fun _ _ => False) I5 (stat I5 n5) st5 stop
      refine thnF td fun r s6 ⟨hr, I6⟩ => ?_
      subst hr
      -- back in the def's context
      have I7 : Inv X pins σ H5 s6 := I3.call' (ch := fp) I6.os I6.base I6.hok I6.bare fun b hb => ⟨(f3 b hb).1.2.2.2.1, (f3 b hb).1.2.1, (f3 b hb).1.2.2.2.2.1, (f3 b hb).1.2.2.2.2.2⟩
      have nC : H5 s3.heap.objs.size = none := by
        have z : H5 ce.locals = none := I6.free
        rw [cL] at z
        exact z
      obtain ⟨m, hn, _⟩ := I6.loc
      have hn : s6.heap.Ns ce.locals m := hn
      rw [cL] at hn
      exact hRR D s3.heap.objs.size s6 m H5 I7 qq hn (I3.fpOk (Nat.le_refl _) nC)
    · have ti := T.item (X.blk s3 H3 scope ce fp) rfl rfl rfl hc i [] s5 _ H5 (fun _ _ => False) I5 (stat I5 n5) st5 go
      refine thnF ti fun r s6 ⟨u, hr, h6⟩ => ?_
      subst hr
      refine thnF h6 fun _ s7 ⟨x, H7, I7, r7, y7, st7, n7⟩ => ?_
      have I7' := I7.pinned (stat I7 n7) (T.obj _ _ st7)
      refine thnF (pg.run _ s7 _ H7 x u _ I7' r7 (step x H7 y7)) fun _ s8 ⟨σ8, H8, I8, hw8, q8⟩ => ?_
      refine thnF (pt.run _ s8 σ8 H8 _ I8 q8) fun b s9 ⟨H9, I9, q9⟩ => ?_
      -- the turn's end
      have fin : ∀ {s' : Shared} {H' : Hp}, Inv (X.blk s3 H3 scope ce fp) ([] ++ pinsAt fp s7.heap) σ8 H' s' → Nx H' → ∃ m, m < n ∧ ∃ i H', Inv (X.blk s3 H3 scope ce fp) [] (wipe σ (own.map (·.2))) H' s' ∧ tn i s'.heap ∧ (∀ b ∈ fp, H' b = none) ∧ WW i m H' := fun {s' H'} I' nx => by
        obtain ⟨m', hm, w'⟩ := hNx H' nx
        have pin' : ∀ b ∈ fp, ∀ o, s7.heap.get? b = some o → s'.heap.get? b = some o ∧ H' b = none := fun b hb o e =>
          let z := I'.pin (b, o) (List.mem_append_right _ (List.mem_append_right _ (mem_pinsAt hb e)))
          ⟨z.1, z.2.1⟩
        have hl : (wipe σ (own.map (·.2))).length = σ8.length := by rw [← hw8, wipe_length]
        refine ⟨m', hm, i + 1, H', (I'.unpinned (pins := [])).weak hl (fun j v e => ?_), T.keep _ _ _ st7 fun b hb o e => (pin' b hb o e).1, fun b hb => ?_, w'⟩
        · rw [← hw8] at e
          exact (wipe_some e).1
        · obtain ⟨o, e, _⟩ := T.obj _ _ st7 b hb
          exact (pin' b hb o e).2
      cases b with
      | false =>
        simp only [Bool.false_eq_true, if_false] at q9 ⊢
        exact fin I9 q9
      | true =>
        simp only [if_true] at q9 ⊢
        refine wpAny_mono (pe.run _ s9 σ8 H9 _ (inv_xe I9) q9) (fun z s10 ⟨yv, H10, I10, r10, acc, hD10, hz10, nx⟩ => ?_) fun u s' z => by
          rw [hxe]
          exact z
        exact app_ok (X := X.blk s3 H3 scope ce fp) (inv_xe (xe := fun _ _ => False) I10) hD10 hz10 r10 fun s11 I11 => fin I11 nx
  exact codeAny_compStart_list loop (T.self X.A 0 _ _ _ st4 loop)
end
section
variable {X : Cx}
/-- name = [..] on one line, the name a local -/
theorem ps_setLcXN {W : WX} {i : Nat} {y : Str} {py : Pos} {elt tg iter : Expr} {ifs : List Expr} {scope : Scope} {own : List (Str × Nat)} {pos spos : Pos} {wi : TI} {g : TG} {tt : TT} {te : L2.St → TE} (tk : L2N.Takes X W) (hst : X.stack = X.env :: X.outer) (hf : X.env.frame = some X.env.locals) (hc : X.calm = true) (hN : X.N.Nodup) (hy : X.N[i]? = some y) (hyl : X.env.scope.names.lookup y = some .local)
    (hsw : swapsWith (.ListComp elt [⟨tg, iter, ifs, 0⟩] scope pos) (some (.Name y py)) spos.line X.env = pure true) (hi : PI X tg iter wi) (ok : BlkOk X.N X.env.scope scope own)
    (hg : ∀ (s : Shared) (H : Hp) (C : Addr) (cl : List (Str × Addr)) (fp : List Addr), PG (X.blk s H scope (compEnvC scope cl C X.env) fp) tg g) (ht : ∀ (s : Shared) (H : Hp) (C : Addr) (cl : List (Str × Addr)) (fp : List Addr), PTs (X.blk s H scope (compEnvC scope cl C X.env) fp) ifs tt)
    (he : PExN X W scope elt te) (hs : ∀ x, foldedSetIterable iter X.env x = pure x := by intro _; rfl) :
    PS X (.Assign [.Name y py] (.ListComp elt [⟨tg, iter, ifs, 0⟩] scope pos) spos) (tAsg (tLcX wi g tt te (own.map (·.2))) (gName i)) := by
  refine ⟨fun pins s σ H D I h => ?_⟩
  rw [exec_Assign_Name_used _ _ _ _ hsw]
  refine wpAny_bind (wpAny_standAt (wpAny_bind ?_))
  show wpAny _ X.A (do let _ ← comprehension (.ListComp elt [⟨tg, iter, ifs, 0⟩] scope pos) scope X.env (firstIterPos [⟨tg, iter, ifs, 0⟩] pos) (newList []) false (eval iter X.env) (some (assign (.Name y py) X.env))) _ _ s
  have h : tLcX wi g tt te (own.map (·.2)) σ H (fun x H1 => gName i x σ H1 D.nx) := h
  refine wpAny_bind (thn (lc_coreXN (Qf := fun _ s' => SP X pins D .next s') tk hst hf hc hN I hi ok hg ht he hs h fun L C s' m H' I' q hn f => ?_) fun _ s' hq => wpAny_pure (wpAny_pure hq))
  show wpAny _ _ (assign (.Name y py) X.env (.ref L)) _ _ _
  refine wpAny_assign_Name (store_ok2 (v := V.ref L) I' hN hy (.inl hyl) rfl (fun s2 I2 ⟨a, sb, ha⟩ => ?_) (.inr hyl))
  obtain ⟨f0, f1, f2, f3, f4, f5⟩ := f
  have haC : C ≠ a := by
    rcases ha with z | z
    · rw [z]; exact f1
    · exact fun e => f4 y a z e.symm
  refine ⟨m, hn.sameBut sb haC, fun h3 sb3 => ?_⟩
  exact ⟨_, H', I2.turned (t' := s2.toks) (fun b o hb e => (sb3.2 b hb).trans e) f0 f1 f3 f4 f5, q⟩
end
section
variable {X : Cx} {W : WX}
/-- a call within a comprehension's element -/
theorem ex_callPN {e : Expr} {es : List Expr} {x : Str} {p pos : Pos} {k n : Nat} {f : Addr} {fd : FuncData} {ps : List Str} {g : List D → Option (D ⊕ Xc)} {gs : Mx (List D)} (hx : ∀ σ, PassesAt (L2N.CX X.prog X.w) X σ (WE W σ)) (G : FnOk X.prog X.w X.K X.mg X.base (L2N.CX X.prog X.w) k f fd ps (spX (cxK X) X.mg n g)) (hr : Room k X.A) (hg : Gl X x) (hm : X.mg x = some (.ref f)) (hk : PySem.W.keepIn X.K (.ref f) = true) (hb : Binds X.K fd ps [])
    (ha : AX X W (e :: es) gs) (hlen : ∀ ρ ds ρ', gs ρ = some (.inl ds, ρ') → ds.length = n)
    (hdb : (x == ("__debug__" : Str)) = false := by decide) (he : starEach (e :: es) X.env = (false, eval e X.env) :: starEach es X.env := by rfl) (hpl : (backTo pos (starEach es X.env)).any (·.1) = false := by rfl) : EX X W (.Call (.Name x p) (e :: es) [] pos) (xCall g gs) :=
  pe_imp (pe_callS (E := WE W) G hr hg hm hk hb hx ha hdb he hpl) fun σ H Q q => by
    obtain ⟨F, ρ, r, ρ', s, eg, k⟩ := q
    rcases xb_some eg with ⟨ds, ρ1, e1, eg1⟩ | ⟨x, e1, rfl⟩
    · obtain ⟨e2, rfl⟩ := xl_some eg1
      refine ⟨F, ρ, _, _, s, e1, fun F1 H1 p1 s1 vs r1 => ⟨by rw [da_len r1]; exact hlen _ _ _ e1, F1, ds, r, s1.sub, r1, e2, fun F3 H3 gr => ?_⟩⟩
      have z := k F3 H3 (p1.trans (gr.stp σ _)) (s1.grow gr)
      cases r with
      | inl d => exact z
      | inr x => exact z
    · exact ⟨F, ρ, _, _, s, e1, fun F1 H1 p1 s1 => k F1 H1 p1 s1⟩
end
section
variable {X : Cx} {W : WX}
theorem de_callX0N {e : Expr} {es : List Expr} {x : Str} {p pos : Pos} {k n : Nat} {f : Addr} {fd : FuncData} {ps : List Str} {g : List D → Option (D ⊕ Xc)} {gs : Md (List D)} (G : FnOk X.prog X.w X.K X.mg X.base (L2N.CX X.prog X.w) k f fd ps (spX (cxK X) X.mg n g)) (hr : Room k X.A) (hg : Gl X x) (hm : X.mg x = some (.ref f)) (hk : PySem.W.keepIn X.K (.ref f) = true) (hb : Binds X.K fd ps [])
    (ha : DA X (e :: es) gs) (hlen : ∀ ρ ds ρ', gs ρ = some (ds, ρ') → ds.length = n)
    (hdb : (x == ("__debug__" : Str)) = false := by decide) (he : starEach (e :: es) X.env = (false, eval e X.env) :: starEach es X.env := by rfl) (hpl : (backTo pos (starEach es X.env)).any (·.1) = false := by rfl) : DE X (.Call (.Name x p) (e :: es) [] pos) (gApp (noR g) gs) :=
  pe_imp (pe_callS (E := fun _ _ _ _ => False) G hr hg hm hk hb (fun σ pins H s e s' I c => by
    obtain ⟨_, _, _, _, _, _, _, _, _, _, _, _, h⟩ := c
    exact h.elim) ha hdb he hpl) fun σ H Q q => by
    obtain ⟨F, ρ, d, ρ', s, eg, k⟩ := q
    obtain ⟨⟨ds, ρ1⟩, e1, eg1⟩ := bind_some eg
    obtain ⟨d1, e2, eg2⟩ := bind_some eg1
    cases eg2
    refine ⟨F, ρ, ds, ρ1, s, e1, fun vs F1 H1 p1 s1 r1 => ⟨by rw [da_len r1]; exact hlen _ _ _ e1, F1, ds, _, s1.sub, r1, noR_some e2, fun F3 H3 gr v rv => ?_⟩⟩
    exact k v F3 H3 (p1.trans (gr.stp σ _)) (s1.grow gr) rv
end
section
variable {X : Cx} {pos : Pos} {x : Str}
theorem ex_callP0N {W : WX} {k : Nat} {f : Addr} {fd : FuncData} {g : List D → Option (D ⊕ Xc)} {p : Pos} (hx : ∀ σ, PassesAt (L2N.CX X.prog X.w) X σ (WE W σ)) (G : FnOk X.prog X.w X.K X.mg X.base (L2N.CX X.prog X.w) k f fd [] (spX (cxK X) X.mg 0 g)) (hr : Room k X.A) (hg : Gl X x) (hm : X.mg x = some (.ref f)) (hk : PySem.W.keepIn X.K (.ref f) = true) (hb : Binds X.K fd [] [])
    (hdb : (x == ("__debug__" : Str)) = false := by decide) : EX X W (.Call (.Name x p) [] [] pos) (xCall g (xOk gNil)) :=
  pe_imp (pe_callS0 (E := WE W) G hr hg hm hk hb hx hdb) fun σ H Q q => by
    obtain ⟨F, ρ, r, ρ', s, eg, k⟩ := q
    rcases xb_some eg with ⟨ds, ρ1, e1, eg1⟩ | ⟨x, e1, rfl⟩
    · obtain ⟨d, z, e3⟩ := ok_some e1
      cases z
      cases e3
      obtain ⟨e2, rfl⟩ := xl_some eg1
      refine ⟨rfl, F, [], r, s.sub, .nil, e2, fun F3 H3 gr => ?_⟩
      have z := k F3 H3 (gr.stp σ _) (s.grow gr)
      cases r with
      | inl d => exact z
      | inr x => exact z
    · obtain ⟨d, z, e3⟩ := ok_some e1
      cases z
end
section
variable {X : Cx} {pos : Pos} {x : Str}
theorem ex_call0N {W : WX} {k : Nat} {f : Addr} {fd : FuncData} {g : List D → Option (D ⊕ Xc)} {p : Pos} (tk : L2N.Takes X W) (G : FnOk X.prog X.w X.K X.mg X.base (L2N.CX X.prog X.w) k f fd [] (spX (cxK X) X.mg 0 g)) (hr : Room k X.A) (hg : Gl X x) (hm : X.mg x = some (.ref f)) (hk : PySem.W.keepIn X.K (.ref f) = true) (hb : Binds X.K fd [] [])
    (hdb : (x == ("__debug__" : Str)) = false := by decide) : EX X W (.Call (.Name x p) [] [] pos) (xCall g (xOk gNil)) := ex_callP0N (fun σ => L2N.passAt tk σ) G hr hg hm hk hb hdb
end
/-- a wish for any exception takes one whose context is None -/
theorem xeN {X : Cx} {W : WX} {u : Value} {s' : Shared} (x : L2N.XE X W u s') : L2.XE X W u s' := by
  obtain ⟨a, B, sI, pins, σ, H, cls, d, e, I, nb, up, sky, na, os, ag, w⟩ := x
  refine ⟨a, B, sI, pins, σ, H, cls, d, e, I, nb, up, ?_, na, os, ag, w⟩
  rcases sky with ⟨h1, h2, h3, oe, vs, h4, hz, h5, h6⟩ | fl | ⟨h1, h2, h3, h4⟩
  · exact .inl ⟨h1, h2, h3, oe, vs, h4, hz.zc, h5, h6⟩
  · exact .inr (.inl (L2H.flyingZ_imp (fun o z => z.zc) fl))
  · exact .inr (.inr ⟨h1, h2, h3, L2H.tracedZ_imp (fun o z => z.zc) h4⟩)
theorem takesN {X : Cx} {W : WX} (tk : L2.Takes X W) : L2N.Takes X W := fun u s' x => tk u s' (xeN x)
end Dn
set_option maxHeartbeats 2000000
namespace Dn
open PySem PySem.Spec PyProof.Rows L2
/-- the context of a suite that may raise, the exception told -/
abbrev suiteY (X : Cx) (W : WX) (a : Addr) (pn : List (Addr × Obj)) : Cx := { L2H.suiteX X a pn with xe := fun u s' => L2.XE (L2H.suiteX X a pn) W u s' }
/-- the frames, one frame's names bound anew -/
theorem funFrames_set {B h h' : Heap} {L : Addr} {o2 : Obj} (hs : ∀ b, b ≠ L → h'.get? b = h.get? b) (h2 : h'.get? L = some o2) (hd2 : ∀ vs, o2.data ≠ .fields vs) : ∀ {l : List PySem.Env}, h.FunFrames B l → h'.FunFrames B l
  | [], _ => trivial
  | env :: l, hh => by
    obtain ⟨hk, ⟨L', o, hf, hb, ho, hd⟩, hr⟩ := hh
    by_cases z : L' = L
    · subst z
      exact ⟨hk, ⟨L', o2, hf, hb, h2, hd2⟩, funFrames_set hs h2 hd2 hr⟩
    · exact ⟨hk, ⟨L', o, hf, hb, (hs L' z).trans ho, hd⟩, funFrames_set hs h2 hd2 hr⟩
section
variable {X : Cx} {pins : List (Addr × Obj)} {σ : L2.St} {H : Hp} {s : Shared}
/-- a name of the def goes: told of the heap behind -/
theorem inv_gone {i : Nat} {n : Str} (I : L2.Inv X pins σ H s) (hN : X.N.Nodup) (hi : X.N[i]? = some n) : ∃ m, s.heap.Ns X.env.locals m ∧ ∀ (h' : Heap) (v : Option Value) (t' : Nat), h'.Ns X.env.locals (fun x => if x = n then v else m x) → Heap.SameBut X.env.locals s.heap h' → L2.Inv X pins (σ.set i none) H { s with heap := h', toks := t' } := by
  obtain ⟨m, hn, hlk⟩ := id I.loc
  refine ⟨m, hn, fun h' v t' hn' hs => ?_⟩
  have neL : ∀ b o, X.s_0.heap.get? b = some o → b ≠ X.env.locals := fun b o e => Nat.ne_of_lt (Nat.lt_of_lt_of_le (Heap.lt_size e) I.ok.above)
  refine ⟨I.ok, I.os, I.bare, ⟨fun b o e n hb hx => ?_, fun b o e n hb hx => ?_, I.base.free, fun b o e hx => ?_, I.base.tups, I.base.frzs, I.base.tbls⟩, ⟨_, hn', fun j y v' e1 e2 e3 => ?_⟩, fun y c e => ?_, I.free, I.freeC, fun p hp => ?_, fun b ob e => ?_, by simpa using I.len⟩
  · exact (hs.2 b (neL b o e)).trans (I.base.keep b o e n hb hx)
  · obtain ⟨sl, e1⟩ := I.base.slot b o e n hb hx
    exact ⟨sl, (hs.2 b (neL b o e)).trans e1⟩
  · obtain ⟨o', e1⟩ := I.base.there b o e hx
    exact ⟨o', (hs.2 b (neL b o e)).trans e1⟩
  · by_cases hj : j = i
    · subst hj
      by_cases hlt : j < σ.length
      · rw [List.getElem?_set_self hlt] at e2; cases e2
      · rw [List.getElem?_eq_none (by simpa using hlt)] at e2; cases e2
    · rw [List.getElem?_set_ne (Ne.symm hj)] at e2
      obtain ⟨u', r', q⟩ := hlk j y v' e1 e2 e3
      refine ⟨u', r', ?_⟩
      rcases q with ⟨k, e⟩ | ⟨k, c, e, z⟩
      · have ny : y ≠ n := fun e => hj (nodup_ix hN e1 (e ▸ hi))
        exact .inl ⟨k, (if_neg ny).trans e⟩
      · exact .inr ⟨k, c, e, z.sameBut hs (I.cne y c e)⟩
  · obtain ⟨w', z⟩ := I.cell y c e
    exact ⟨w', z.sameBut hs (I.cne y c e)⟩
  · obtain ⟨e, n, ne, nf, d⟩ := I.pin p hp
    exact ⟨(hs.2 p.1 ne).trans e, n, ne, nf, d⟩
  · refine (I.hok b ob e).stay (fun c w' hc q => (hs.2 c ?_).trans q) (fun _ q => q) fun _ _ q => q
    intro z
    subst z
    rcases hc with hc | hc
    · rw [← hc, I.free] at e; cases e
    · rw [I.free] at hc; cases hc
/-- an exception out of a named suite: noted, the name let go, passed on -/
theorem suite_out {W : WX} {i : Nat} {n : Str} {a : Addr} {q : Addr × Obj} {u : Value} {s6 : Shared} {pos' : Pos} {A' : Around} {what : String} (tk : L2.Takes X W) (hW : ∀ cls d σ σ' H, W cls d σ H → W cls d σ' H) (ok : X.Ok) (hs : X.stack = X.env :: X.outer) (hf : X.env.frame = some X.env.locals)
    (hfrA : A'.frames = some (X.env :: X.outer)) (hN : X.N.Nodup) (hi : X.N[i]? = some n) (hln : X.env.kindOf n = some .local) (x : L2.XE (L2H.suiteX X a (q :: (X.pn ++ pins))) W u s6) {E2 : Value → Shared → Prop} {E1 : Value → Shared → Prop} :
    wpAny (model X.prog X.w) A' (noteFrame u X.env) (fun _ s3 => wpAny (model X.prog X.w) A' (do bindName X.env n .none; unbindBehindTheSuite X.env n pos') (fun _ s4 => wpAny (model X.prog X.w) A' (PySem.passOn what u X.env : Sem Flow) (fun _ _ => False) (notedBy (model X.prog X.w) A' X.env fun x s' => cameBackBy (model X.prog X.w) X.A X.env X.xe x s') s4) E2 s3) E1 s6 := by
  obtain ⟨a2, B, sI, pn2, σ2, H2, cls, d, rfl, I2, nb, up, sky, na, os, ag, w2⟩ := x
  have J := L2H.unsuiteX I2 ok
  have sky : Sky B (X.env :: X.outer) a2 (Zc cls d) X.env.locals s6.heap := by rw [← hs]; exact sky
  have step : ∀ h1, HandSPX.HeldZ B (X.env :: X.outer) a2 (Zc cls d) X.env.locals h1 → s6.heap.UpToSlots h1 → wpAny (model X.prog X.w) A' (do bindName X.env n .none; unbindBehindTheSuite X.env n pos') (fun _ s4 => wpAny (model X.prog X.w) A' (PySem.passOn what (.ref a2) X.env : Sem Flow) (fun _ _ => False) (notedBy (model X.prog X.w) A' X.env fun x s' => cameBackBy (model X.prog X.w) X.A X.env X.xe x s') s4) E2 { s6 with heap := h1 } := by
    intro h1 held up1
    obtain ⟨m, hn, gone⟩ := inv_gone J hN hi
    obtain ⟨oC, es, ep, hC, hd, hk⟩ := id hn
    have nf : ∀ vs, oC.data ≠ .fields vs := fun vs z => by rw [hd] at z; cases z
    obtain ⟨sl1, e1⟩ := up _ _ hC nf
    obtain ⟨sl2, e2⟩ := up1 _ _ e1 nf
    have hn1 : h1.Ns X.env.locals m := ⟨_, es, ep, e2, hd, hk⟩
    have hcls : (X.env.scope.kind == .class || (X.env.scope.kind == .module && X.env.locals != X.env.globals)) = false := by rw [J.ok.kind]; rfl
    refine wpAny_nameGoes_keeps hln hn1 hcls fun h2 v hn2 hsb => ?_
    obtain ⟨hk1, hk2, hk3, oe, vs, T, oT, ts, he, hz, hdt, h1v, hnT, hTe, hT, hdT, h3⟩ := held
    obtain ⟨o2, es2, ep2, hL2, hd2, hk2'⟩ := id hn2
    have nf2 : ∀ vs, o2.data ≠ .fields vs := fun vs z => by rw [hd2] at z; cases z
    have bL : B.get? X.env.locals = none := by
      obtain ⟨_, ⟨L', o, hf', hb, _, _⟩, _⟩ := hk3
      rw [hf] at hf'
      cases hf'
      exact hb
    have aL : a2 ≠ X.env.locals := fun z => by
      rw [z, e2] at he
      cases he
      exact nf _ hdt
    have TL : T ≠ X.env.locals := fun z => by
      rw [z, e2] at hT
      cases hT
      exact nf _ hdT
    have held2 : HandSPX.HeldZ B (X.env :: X.outer) a2 (Zc cls d) X.env.locals h2 :=
      ⟨fun b o e => (hsb.2 b fun z => by rw [z, bL] at e; cases e).trans (hk1 b o e), hk2, funFrames_set (fun b hb => hsb.2 b hb) hL2 nf2 hk3, oe, vs, T, oT, ts, (hsb.2 a2 aL).trans he, hz, hdt, h1v, hnT, hTe, (hsb.2 T TL).trans hT, hdT, h3⟩
    -- the ground, the name let go there as well
    have hfr2 : (o2 : Obj).isFreed = false := by
      obtain ⟨c, dd, dt, sl⟩ := o2
      cases dt <;> first | rfl | (cases hd2)
    have G1 : (sI.heap.update X.env.locals fun _ => o2).get? X.env.locals = some o2 := Heap.get?_update_self (fun _ => o2) hC hfr2
    have G2 : ∀ b, b ≠ X.env.locals → (sI.heap.update X.env.locals fun _ => o2).get? b = sI.heap.get? b := fun b hb => Heap.get?_update_ne _ _ _ _ hb
    have hnG : (sI.heap.update X.env.locals fun _ => o2).Ns X.env.locals (fun x => if x = n then v else m x) := ⟨o2, es2, ep2, G1, hd2, hk2'⟩
    have sbG : Heap.SameBut X.env.locals sI.heap (sI.heap.update X.env.locals fun _ => o2) := Heap.SameBut.update ..
    have JG := gone _ _ sI.toks hnG sbG
    unfold PySem.passOn
    have nT : ¬ ((Value.ref T == Value.none) = true) := by simp
    refine wpAny_bind (wpAny_field ((hsb.2 a2 aL).trans he) hdt h1v ?_)
    rw [if_neg nT, hf]
    have fin : wpAny (model X.prog X.w) A' (setFlight (.ref a2) (some X.env.locals)) (fun _ s4 => wpAny (model X.prog X.w) A' (throw (.ref a2) : Sem Flow) (fun _ _ => False) (notedBy (model X.prog X.w) A' X.env fun x s' => cameBackBy (model X.prog X.w) X.A X.env X.xe x s') s4) (notedBy (model X.prog X.w) A' X.env fun x s' => cameBackBy (model X.prog X.w) X.A X.env X.xe x s') { s6 with heap := h2, toks := s6.toks + 1 } := by
      refine HandSPX.setFlight_onZ held2 fun h4 held4 up4 => wpAny_throw ?_
      refine HandSPX.againZ hf held4.2.2.2 ?_
      obtain ⟨_, _, _, oe', vs', T', oT', ts', he', hz', hdt', h1v', _⟩ := id held4
      unfold cameBackBy
      refine wpAny_bind (wpAny_field he' hdt' h1v' ?_)
      rw [if_neg (show ¬ ((Value.ref T' == Value.none) = true) from by simp), hf]
      have fin2 : wpAny (model X.prog X.w) X.A (setFlight (.ref a2) (some X.env.locals)) (fun _ s'' => X.xe (.ref a2) s'') X.xe { s6 with heap := h4, toks := s6.toks + 1 } := by
        refine HandSPX.setFlight_onZ held4 fun h5 held5 up5 => tk _ _ ?_
        refine ⟨a2, B, { sI with heap := sI.heap.update X.env.locals fun _ => o2 }, pins, σ2.set i none, H2, cls, d, rfl, JG, fun b o e hb => ?_, fun b o e nf' => ?_, .inr (.inr (by rw [hs]; exact held5)), na, os, ag, hW _ _ _ _ _ w2⟩
        · have hbL : b ≠ X.env.locals := fun z => hb (by rw [z, hs]; exact List.mem_filterMap.mpr ⟨X.env, List.mem_cons_self, hf⟩)
          exact nb b o ((G2 b hbL).symm.trans e) hb
        · by_cases hbL : b = X.env.locals
          · subst hbL
            rw [G1] at e
            cases e
            obtain ⟨t1, q1⟩ := up4 _ _ hL2 nf'
            obtain ⟨t2, q2⟩ := up5 _ _ q1 nf'
            exact ⟨t2, q2⟩
          · rw [G2 b hbL] at e
            obtain ⟨t1, q1⟩ := up b o e nf'
            obtain ⟨t2, q2⟩ := up1 b _ q1 nf'
            obtain ⟨t3, q3⟩ := up4 b _ ((hsb.2 b hbL).trans q2) nf'
            obtain ⟨t4, q4⟩ := up5 b _ q3 nf'
            exact ⟨t4, q4⟩
      first
        | exact wpAny_bind (wpAny_pure fin2)
        | exact fin2
    first
      | exact wpAny_bind (wpAny_pure (wpAny_bind fin))
      | exact wpAny_bind fin
  rcases sky with ⟨hB, hn, hl, oe, vs, he, hz, hd, h1⟩ | fl | hh
  · exact HandSPX.look_newZ Zc.steady hfrA hl hf he hB hn hd h1 hz step
  · exact HandSPX.looks_onZ Zc.steady hfrA hf fl step
  · exact HandSPX.againZ hf hh.2.2.2 (step s6.heap hh (Heap.UpToSlots.refl _))
end
section
variable {X : Cx} {x n : Str} {c : Value} {i : Nat} {body suite : List Stmt} {b₀ : Stmt} {np pos pos' : Pos} {tb : WX → TS} {ts : Addr → Value → Option Addr → TS} {Wout : WX}
theorem ps_try_asX (hs : X.stack = X.env :: X.outer) (hf : X.env.frame = some X.env.locals) (hN : X.N.Nodup) (hi : X.N[i]? = some n) (hln : X.env.kindOf n = some .local) (hc : Names X x c) (tk : L2.Takes X Wout) (hW : ∀ cls d σ σ' H, Wout cls d σ H → Wout cls d σ' H)
    (hb : ∀ (W : WX) (pn : List (Addr × Obj)) (xe : Value → Shared → Prop), L2N.Takes (X.tr pn xe) W → PassesOwn (model X.prog X.w) X.A X.env xe → PSs (X.tr pn xe) body (tb W))
    (hsu : ∀ (a : Addr) (oe : Obj) (cls : Value) (d : Option Addr) (pn : List (Addr × Obj)), L2N.Zn cls d oe → (∃ vs, oe.data = .fields vs) → L2.Takes (suiteY X Wout a ((a, oe) :: pn)) Wout → L2H.HotC (suiteY X Wout a ((a, oe) :: pn)) → PSs (suiteY X Wout a ((a, oe) :: pn)) (b₀ :: suite) (ts a cls d)) :
    PS X (.Try body [.ExceptHandler (some (.Name x np)) (some n) (b₀ :: suite) pos'] [] [] pos) (fun D σ H => tb (wAs X.K c i ts Wout D) D σ H) := by
  refine ⟨fun pins s σ H D I h => ?_⟩
  have ok := I.ok
  have hfr : X.A.frames = some (X.env :: X.outer) := by rw [ok.frames, hs]
  have hloc : Loc X.env.scope n := .inl hln
  refine wpAny_Try_except ?_
  refine wpAny_mono ((hb (wAs X.K c i ts Wout D) (X.pn ++ pins) (fun e s₁ => wpAny (model X.prog X.w) X.A (noteFrame e X.env) (fun _ s₂ => wpAny (model X.prog X.w) X.A (setFlight e none) (fun _ s₃ =>
    wpAny (model X.prog X.w) X.A (handleBy e X.env [.ExceptHandler (some (.Name x np)) (some n) (b₀ :: suite) pos']) (SP X pins D) X.xe s₃) X.xe s₂) X.xe s₁) (fun u s' xx => ?_) PassesOwn.looking).run [] s σ H D (I.toTry _) h) (fun f s1 hsp => ?_) (fun e s1 he => he)
  · obtain ⟨a, B, sI, pins', σ', H', cls, d, rfl, J', nb, up, sky, na, os, ag, b, hb1, hyes, hno⟩ := xx
    have J : Inv X pins σ' H' sI := J'.ofTry ok
    have sky' : Sky B (X.env :: X.outer) a (L2N.Zn cls d) X.env.locals s'.heap := by rw [← hs]; exact sky
    show wpAny (model X.prog X.w) X.A (noteFrame (.ref a) X.env) _ _ _
    refine L2N.Sky.land L2N.Zn.steady hfr hf sky' fun h3 fl3 up3 => ?_
    have J3 : Inv X pins σ' H' { s' with heap := h3 } := J.landed nb fl3.1 (up.trans up3) os ag
    obtain ⟨oe3, vs3, he3, hz3, hd3⟩ := fl3.there
    have notFr : ∀ {h : Heap} {o : Obj} {vs : Array Value}, h.FunFrames B (X.env :: X.outer) → h.get? a = some o → o.data = .fields vs → a ∉ frs (X.env :: X.outer) := fun {h o vs} ff e dd hm => by
      obtain ⟨_, o', e', hnf⟩ := ff.mem hm
      rw [e] at e'; cases e'
      exact hnf _ dd
    have nfr := notFr fl3.2.2.1 he3 hd3
    have nL : a ≠ X.env.locals := fun z => nfr (List.mem_filterMap.mpr ⟨X.env, List.mem_cons_self, by rw [hf, z]⟩)
    have nF : a ∉ X.fs := fun hm => by
      obtain ⟨e, he, q⟩ := List.mem_filterMap.mp hm
      exact nfr (List.mem_filterMap.mpr ⟨e, List.mem_cons_of_mem _ he, q⟩)
    have S3 := J3.suite he3 hd3 na nL nF
    refine wpAny_handleBy_cons (codeAny_handlers_test ?_) (by intro q; cases q)
    have LT : PySem.W.Looks (model X.prog X.w) h3 (typeOf (.ref a)) cls := fun A Q E s k q => wpAny_typeOf_ref (k _ _ he3) (by rw [hz3.1]; exact q)
    have LM := PySem.W.exm_one (M := model X.prog X.w) (J3.kIn) LT hb1
    have test : ∀ {Q : Value → Shared → Prop} {E : Value → Shared → Prop}, Q c { s' with heap := h3 } → wpAny (model X.prog X.w) (X.A.mark (some (.ref a))) (eval (.Name x np) X.env) Q E { s' with heap := h3 } := fun {Q E} q => by
      obtain ⟨hg, hdbg, hm | ⟨hm, hv, hnn⟩⟩ := hc
      · exact ld_glob (X := X.suite a ((a, oe3) :: (X.pn ++ pins))) S3 hg hm q hdbg
      · exact ld_blt (X := X.suite a ((a, oe3) :: (X.pn ++ pins))) S3 hg hm hv q hnn hdbg
    refine test (LM.here ?_)
    cases b with
    | true =>
      refine codeAny_handlers_suite_as ?_
      refine HandSPX.lands_againZ fl3 fun h4 fl4 up4 => ?_
      have J4 : Inv X pins σ' H' { s' with heap := h4 } := J.landed nb fl4.1 ((up.trans up3).trans up4) os ag
      obtain ⟨oe4, vs4, he4, hz4, hd4⟩ := fl4.there
      have S4 := J4.suite he4 hd4 na nL nF
      refine store_ok (X := X.suite a ((a, oe4) :: (X.pn ++ pins))) (v := .ref a) S4 hN hi hloc rfl (fun s5 S5 => ?_) (.inr hln)
      have tkY : L2.Takes (suiteY X Wout a ((a, oe4) :: (X.pn ++ pins))) Wout := fun u2 s2 x2 => by
        obtain ⟨a2, B2, sI2, pn2, σ2, H2, cls2, d2, e2, I2, nb2, up2, sky2, na2, os2, ag2, w2⟩ := x2
        exact ⟨a2, B2, sI2, pn2, σ2, H2, cls2, d2, e2, inv_xe (X := suiteY X Wout a ((a, oe4) :: (X.pn ++ pins))) I2, nb2, up2, sky2, na2, os2, ag2, w2⟩
      have hot : L2H.HotC (suiteY X Wout a ((a, oe4) :: (X.pn ++ pins))) := ⟨(a, oe4), ⟨rfl, vs4, hd4, hz4.2.2 vs4 hd4⟩, List.mem_cons_self⟩
      refine wpAny_mono ((hsu a oe4 cls d (X.pn ++ pins) hz4 ⟨_, hd4⟩ tkY hot).run [] s5 _ H' _ (inv_xe (X := L2H.suiteX X a ((a, oe4) :: (X.pn ++ pins))) (L2H.suiteX_of S5)) (hyes rfl a na)) (fun f s6 hsp => ?_) (fun e6 s6 z => ?_)
      · have end_ : ∀ {σ6 : L2.St} {H6 : Hp} {Q : Shared → Prop}, L2.Inv (suiteY X Wout a ((a, oe4) :: (X.pn ++ pins))) [] σ6 H6 s6 → (∀ s7, L2.Inv X pins (σ6.set i none) H6 s7 → Q s7) →
            wpAny (model X.prog X.w) X.A (do bindName X.env n .none; unbindBehindTheSuite X.env n pos') (fun _ s7 => Q s7) X.xe s6 := fun {σ6 H6 Q} S6 hq => gone_ok (L2H.unsuiteX (inv_xe (X := suiteY X Wout a ((a, oe4) :: (X.pn ++ pins))) (xe := X.xe) S6) ok) hN hi hln hq
        cases f with
        | next =>
          obtain ⟨σ6, H6, S6, q6⟩ := hsp
          exact end_ S6 fun s7 J7 => ⟨_, _, J7, q6⟩
        | brk =>
          obtain ⟨σ6, H6, S6, q6⟩ := hsp
          exact end_ S6 fun s7 J7 => ⟨_, _, J7, q6⟩
        | cont =>
          obtain ⟨σ6, H6, S6, q6⟩ := hsp
          exact end_ S6 fun s7 J7 => ⟨_, _, J7, q6⟩
        | ret u =>
          obtain ⟨v6, σ6, H6, S6, r6, q6⟩ := hsp
          exact end_ S6 fun s7 J7 => ⟨_, _, _, J7, r6, q6⟩
      · exact suite_out (A' := X.A.mark (some (.ref a))) (what := "try.except-as") (pos' := pos') tk hW ok hs hf hfr hN hi hln z
    | false =>
      show wpAny _ X.A (handleBy (.ref a) X.env []) _ _ _
      refine wpAny_handleBy_nil ?_
      have fl3 := L2H.flyingZ_imp (Z' := Zc cls d) (fun o z => z.zc) fl3
      obtain ⟨k1, k2, k3, oe, vs, T, oT, ts', he, hz, hd, h1, hr⟩ := id fl3
      unfold PySem.passOn
      refine wpAny_bind (wpAny_field he hd h1 ?_)
      rw [if_neg (show ¬ ((Value.ref T == Value.none) = true) from by simp)]
      have fin : wpAny (model X.prog X.w) X.A (setFlight (.ref a) X.env.frame) (fun _ s4 => wpAny (model X.prog X.w) X.A (throw (.ref a) : Sem Flow) (SP X pins D) X.xe s4) X.xe { s' with heap := h3 } := by
        rw [hf]
        refine HandSPX.setFlight_upZ fl3 fun h4 hh4 up4 => wpAny_throw (tk _ _ ?_)
        exact ⟨a, B, sI, pins, σ', H', cls, d, rfl, J, nb, (up.trans up3).trans up4, .inr (.inr (by rw [hs]; exact hh4)), na, os, ag, hno rfl⟩
      first
        | exact wpAny_bind (wpAny_pure (wpAny_bind fin))
        | exact wpAny_bind fin
  · cases f with
    | next =>
      obtain ⟨σ', H', J', q⟩ := hsp
      exact wpAny_execs_nil ⟨σ', H', J'.ofTry ok, q⟩
    | brk =>
      obtain ⟨σ', H', J', q⟩ := hsp
      exact ⟨σ', H', J'.ofTry ok, q⟩
    | cont =>
      obtain ⟨σ', H', J', q⟩ := hsp
      exact ⟨σ', H', J'.ofTry ok, q⟩
    | ret u =>
      obtain ⟨v, σ', H', J', r, q⟩ := hsp
      exact ⟨v, σ', H', J'.ofTry ok, r, q⟩
end
end Dn
set_option maxHeartbeats 2000000
namespace Dn
open PySem PySem.Spec PyProof.Rows L2
section
variable {Y : Cx} {i : Nat} {a dd : Addr} {m : Str} {pos : Pos}
theorem me_fmt {e : Expr} {ga : Md D} (ha : ME Y i a dd m e ga) : ME Y i a dd m (.FormattedValue e (-1) none pos) (gFmt ga) :=
  pe_imp (pe_fmt ha) fun σ H Q q => by
    obtain ⟨hi, F, ρ, d, ρ', s, hx, eg, k⟩ := q
    obtain ⟨⟨x, ρ1⟩, e1, eg⟩ := bind_some eg
    obtain ⟨z, e3, eg⟩ := bind_some eg
    cases eg
    refine ⟨hi, F, ρ, x, ρ1, s, hx, e1, fun v F1 H1 p1 s1 r1 => ?_⟩
    replace e3 : fmtD x = some _ := e3
    unfold fmtD at e3
    split at e3
    · skip
      split at e3
      · rename_i hz
        cases e3
        cases r1
        exact .inl ⟨_, rfl, hz, k _ F1 H1 p1 s1 (.str _)⟩
      · cases e3
    · skip
      split at e3
      · rename_i hz
        cases e3
        cases r1
        exact .inr ⟨_, rfl, hz, k _ F1 H1 p1 s1 (.str _)⟩
      · cases e3
    · cases e3
inductive MJ (Y : Cx) (i : Nat) (a dd : Addr) (m : Str) : List Expr → List (Md D) → Prop where
  | nil : MJ Y i a dd m [] []
  | cons {e : Expr} {g : Md D} {es : List Expr} {gs : List (Md D)} (h : ME Y i a dd m e g) (r : MJ Y i a dd m es gs) : MJ Y i a dd m (e :: es) (g :: gs)
theorem mj_pj {es : List Expr} {gs : List (Md D)} (h : MJ Y i a dd m es gs) : PJ Y es (gs.map (tM (cxK Y) i a dd m)) := by
  induction h with
  | nil => exact .nil
  | cons h r ih => exact .cons h ih
theorem js_qM {Q : VK} : ∀ (gs : List (Md D)) (acc : Str) (σ : L2.St) (H : Hp) (F : Hp) (ρ : Env) (d : D) (ρ' : Env), σ[i]? = some (some (.ref a)) → St (cxK Y) F H σ ρ → H dd = some (xdM m) → gJs gs acc ρ = some (d, ρ') → (∀ v F' H', Stp F σ ρ H F' σ ρ' H' → St (cxK Y) F' H' σ ρ' → Rp (cxK Y) F' v d → Q v H') → tJs (gs.map (tM (cxK Y) i a dd m)) acc σ H fun out H1 => Q (.str out) H1
  | [], acc, σ, H, F, ρ, d, ρ', hi, s, hx, eg, k => by
    cases eg
    exact k (.str acc) F H ((Grow.refl s.sub).stp σ ρ) s (.str _)
  | g :: gs, acc, σ, H, F, ρ, d, ρ', hi, s, hx, eg, k => by
    obtain ⟨⟨x, ρ1⟩, e1, eg⟩ := bind_some eg
    obtain ⟨z, e3, eg⟩ := bind_some eg
    refine ⟨hi, F, ρ, x, ρ1, s, hx, e1, fun v F1 H1 p1 s1 r1 => ?_⟩
    replace e3 : jsD acc x = some z := e3
    unfold jsD at e3
    split at e3
    · skip
      split at e3
      · rename_i hz
        cases e3
        cases r1
        exact ⟨_, rfl, hz, js_qM gs _ σ H1 F1 ρ1 d ρ' hi s1 (xd_keep s p1 hx) eg fun v F' H' p s2 r => k v F' H' (p1.trans p) s2 r⟩
      · cases e3
    · cases e3
theorem me_js {v1 v2 : Expr} {rest : List Expr} {gs : List (Md D)} (h : MJ Y i a dd m (v1 :: v2 :: rest) gs) : ME Y i a dd m (.JoinedStr (v1 :: v2 :: rest) pos) (gJs gs Str.empty) :=
  pe_imp (pe_joined (mj_pj h)) fun σ H Q q => by
    obtain ⟨hi, F, ρ, d, ρ', s, hx, eg, k⟩ := q
    exact js_qM gs Str.empty σ H F ρ d ρ' hi s hx eg k
end
/-- what is read in a suite, in the context of a suite that may raise -/
theorem pe_suiteY {X : Cx} {W : WX} {a : Addr} {pn : List (Addr × Obj)} {e : Expr} {t : TE} (h : PE (X.suite a pn) e t) : PE (suiteY X W a pn) e t := ⟨fun pins s σ H Q I q => by
  refine wpAny_mono (h.run pins s σ H Q (inv_xe (X := suiteY X W a pn) (xe := fun _ _ => False) I) q) (fun u s1 hu => ?_) (fun _ _ z => z.elim)
  obtain ⟨v, H1, I1, r1, q1⟩ := hu
  exact ⟨v, H1, inv_xe (X := X.suite a pn) I1, r1, q1⟩⟩
section
variable {X : Cx} {W : WX} {x n n2 : Str} {c : Value} {i : Nat} {body : List Stmt} {arg : Expr} {np p2 cpos rpos pos pos' : Pos}
def xTryR (i : Nat) (n2 : Str) (h : Str → Option Bool) (gb : Sx) (gm : Xc → Md D) : Sx := fun ρ => (gb ρ).bind fun p => match p.1 with
  | .inl f => some (.inl f, p.2)
  | .inr x => (h x.c).bind fun b => if b = true then (if notOwn p.2 i = true ∧ i < p.2.length then (gm x (p.2.set i none)).bind fun q => match q.1 with
      | .str m => if notOwn q.2 i = true then some (.inr ⟨n2, m⟩, q.2.set i none) else none
      | _ => none
    else none) else some (.inr x, p.2)
theorem sx_tryR {h : Str → Option Bool} {gb : Sx} {gm : Xc → Md D} {k : Nat} {C2 Tc fI : Addr} (hs : X.stack = X.env :: X.outer) (hf : X.env.frame = some X.env.locals) (hN : X.N.Nodup) (hi : X.N[i]? = some n) (hln : X.env.kindOf n = some .local) (hc : Names X x c) (tk : L2.Takes X W) (hW : ∀ cls d σ σ' H, W cls d σ H → W cls d σ' H)
    (hh : ∀ (cn : Str) (C : Addr) (b : Bool), h cn = some b → X.mg cn = some (.ref C) → PySem.W.exmOne X.K (.ref C) c = some b)
    (hb : ∀ (W : WX) (pn : List (Addr × Obj)) (xe : Value → Shared → Prop), L2N.Takes (X.tr pn xe) W → PassesOwn (model X.prog X.w) X.A X.env xe → SXs (X.tr pn xe) W body gb)
    (T : Tw.TdTxt X.prog X.K X.mg n2 C2 Tc fI) (hr : Room k X.A) (hg : Gl X n2)
    (hsu : ∀ (xc : Xc) (C a dd : Addr) (oe : Obj) (pn : List (Addr × Obj)), h xc.c = some true → X.mg xc.c = some (.ref C) → Zc (.ref C) (some dd) oe → (∃ vs, oe.data = .fields vs) → ME (X.suite a ((a, oe) :: pn)) i a dd xc.m arg (gm xc))
    (hdb : (n2 == ("__debug__" : Str)) = false := by decide)
    (he : starEach (arg :: []) X.env = (false, eval arg X.env) :: starEach [] X.env := by rfl) (hpl : (backTo cpos (starEach [] X.env)).any (·.1) = false := by rfl) :
    SX X W (.Try body [.ExceptHandler (some (.Name x np)) (some n) [.Raise (some (.Call (.Name n2 p2) [arg] [] cpos)) none rpos] pos'] [] [] pos) (xTryR i n2 h gb gm) := by
  refine ps_imp (ps_try_asX (tb := fun V => tXS (cxK X) X.mg V gb) (ts := fun a cls d E σ H => ∃ (xc : Xc) (C dd : Addr), h xc.c = some true ∧ X.mg xc.c = some (.ref C) ∧ cls = .ref C ∧ d = some dd ∧ tMkTd C2 (tCons (tM (cxK X) i a dd xc.m (gm xc)) tNil) σ H fun cls d H' => W cls d σ H') (Wout := W) hs hf hN hi hln hc tk hW hb fun a oe cls d pn hz hv tkY hot => ?_) fun E σ H q => ?_
  · refine ⟨fun pins s σ H D I q => ?_⟩
    obtain ⟨xc, C, dd, e, e2, rfl, rfl, q⟩ := q
    have hME := hsu xc C a dd oe pn e e2 hz.zc hv
    exact (pss_one (L2H.ps_raiseH hot tkY (pmk_tdH (X := suiteY X W a ((a, oe) :: pn)) (k := k) T ⟨hr.dp, hr.un⟩ (pa_cons (pe_suiteY hME) pa_nil he) hg hdb he hpl))).run pins s σ H D I q
  · obtain ⟨F, ρ, r, ρ', s, eg, k⟩ := q
    obtain ⟨⟨f, ρ1⟩, e1, eg1⟩ := bind_some eg
    refine ⟨F, ρ, f, ρ1, s, e1, fun σ1 F1 H1 p1 s1 => ?_⟩
    cases f with
    | inl f =>
      cases eg1
      exact k σ1 F1 H1 p1 s1
    | inr xc =>
      obtain ⟨b, e2, eg2⟩ := bind_some eg1
      intro C dd hC hd
      refine ⟨b, hh _ _ _ e2 hC, fun hb a na => ?_, fun hb => ?_⟩
      · subst hb
        simp only [↓reduceIte] at eg2
        split at eg2
        · rename_i ho
          obtain ⟨⟨d5, ρ5⟩, e5, e6⟩ := bind_some eg2
          have hl : i < σ1.length := by rw [← s1.len]; exact ho.2
          have s2 := st_clear (i := i) (v := some (.ref a)) s1 ho.1
          have p2 := stp_clear (i := i) (v := some (.ref a)) p1 ho.1
          refine ⟨xc, C, dd, e2, hC, rfl, rfl, List.getElem?_set_self hl, F1, ρ1.set i none, d5, ρ5, s2, hd, e5, fun v F3 H3 p3 s3 r3 => ⟨v, rfl, fun d6 hd6 => ?_⟩⟩
          cases d5 with
          | str m =>
            simp only at e6
            split at e6
            · rename_i hn
              cases e6
              cases r3
              have gr : Grow F3 H3 F3 (upd H3 d6 (xdM m)) := Grow.own s3.sub hd6
              have k1 := k ((σ1.set i (some (.ref a))).set i none) F3 _ (stp_clear (i := i) (v := none) ((p2.trans p3).trans (gr.stp _ _)) hn) (st_clear (i := i) (v := none) (s3.grow gr) hn) C2 d6 T.gC upd_same
              exact hW _ _ _ _ _ k1
            · cases e6
          | none => cases e6
          | bool _ => cases e6
          | int _ => cases e6
          | list _ => cases e6
          | tuple _ => cases e6
          | dict _ => cases e6
        · cases eg2
      · subst hb
        have eg3 : some ((.inr xc : Fl ⊕ Xc), ρ1) = some (r, ρ') := eg2
        cases eg3
        exact k σ1 F1 H1 p1 s1 C dd hC hd
end
end Dn
set_option maxHeartbeats 2000000
namespace Dn
open PySem PySem.Spec PyProof.Rows L2
structure FnG (P : Program) (w : World) (K : PySem.W.Frag) (mg : Str → Option Value) (base : Heap) (CX : CXT) (k : Nat) (f : Addr) (fd : FuncData) (ps : List Str) (sp : Sp) : Prop where
  len : ∀ vs H Q E, sp vs H Q E → vs.length = ps.length
  run : ∀ (A : Around) (outer : List PySem.Env) (s : Shared) (H : Hp) (args : Args) (us : List Value) (vs : List V) (Q : VK) (E : XK), A.guards = some [] → Room k A → Env0 P w K mg base A outer s H → BindsTo s fd args (ps.zip us) → Vals vs us → sp vs H Q E →
    codeAny (model P w) A (.call (.ref f) args) (CR CX outer P w H s Q E) s
theorem fn_ofG {CX : CXT} {P : Program} {w : World} {K : PySem.W.Frag} {mg : Str → Option Value} {base : Heap} {x qual : Str} {st : Stmt} {f : Addr} {fd : FuncData} {N ps : List Str} {k : Nat} {sp : Sp} (Fn : Fun K x qual st f fd) (S : FnScope N ps (defScope st)) (len : ∀ vs H Q E, sp vs H Q E → vs.length = ps.length)
    (hbody : ∀ (cdv : Value) (A : Around) (outer : List PySem.Env) (s : Shared) (H : Hp) (vs : List V) (Q : VK) (E : XK), A.guards = some [] → Room k (A.deeper (envOfC qual (defScope st) s.heap.objs.size f cdv)) → sp vs H Q E →
      ∃ t, PSs (cxOf CX P w K mg base N qual (defScope st) f cdv A outer s H E) (defBody st) t ∧ t { nx := fun _ H' => Q .non H', rt := Q } (L2.start N vs) H) : FnG P w K mg base CX (k + 1) f fd ps sp := by
  obtain ⟨oc, od, kV, doc, pm, an, cdv, ct, osl, rfl, lk, hcd⟩ := Fn.ex
  refine ⟨len, fun A outer s H args us vs Q E hgu hr e0 hb r hsp => ?_⟩
  have hl := len _ _ _ _ hsp
  have kept : ∀ b o, base.get? b = some o → s.heap.get? b = some o := fun b o e => (e0.bs b o e).1
  have KX : K.In s.heap := e0.mod.kin.keeps kept
  have lim : s.heap.NoLimit := e0.mod.nolimit.keeps kept
  have kinds : ∀ y ∈ ps.zip us, (defScope st).names.lookup y.1 = some .local ∨ ((defScope st).names.lookup y.1 = some .cell ∧ ((cellsFrom (s.heap.objs.size + 1) (defScope st).names []).lookup y.1).isSome = true) := by
    rintro ⟨n, v⟩ hy
    rcases S.par n (List.of_mem_zip hy).1 with q | q
    · exact .inl q
    · exact .inr ⟨q, PySem.W.cellsFrom_some _ _ _ (.inl q)⟩
  refine codeAny_call_function hr.depth (KX _ _ lk) rfl S.co S.gen rfl (PySem.W.codeRec_of KX hcd) (hb _ _ _ _ (wpAny_newFunctionEnv_cells S.kind kinds ?_))
  intro env he s1 x
  subst he
  obtain ⟨t, ht, hq⟩ := hbody cdv A outer s H vs Q E hgu (hr.deeper _) hsp
  have I := inv_start (CX := CX) (w := w) (E := E) S hr.hd e0 hl r x
  refine ⟨lim.keeps x.toInCall.keep, codeAny_func (wpAny_mono (ht.run [] s1 (L2.start N vs) H _ I hq) (fun fl s' hs => ?_) fun _ _ he => he)⟩
  cases fl with
  | brk => exact hs.choose_spec.choose_spec.2.elim
  | cont => exact hs.choose_spec.choose_spec.2.elim
  | next =>
    obtain ⟨_, H', J, q⟩ := hs
    exact ⟨.non, H', J.os, J.bare, J.base, J.hok, rfl, q⟩
  | ret u =>
    obtain ⟨v, _, H', J, rv, q⟩ := hs
    exact ⟨v, H', J.os, J.bare, J.base, J.hok, rv, q⟩
section
variable {X : Cx} {CX : CXT} {k : Nat} {f : Addr} {fd : FuncData} {ps : List Str} {sp : Sp} {E : L2.St → XK} {x : Str} {p pos : Pos} {e : Expr} {es : List Expr} {t : TA}
theorem run_fnG {pins : List (Addr × Obj)} {σ : L2.St} {H : Hp} {s : Shared} {Q : VK} {us : List Value} {vs : List V} (F : FnG X.prog X.w X.K X.mg X.base CX k f fd ps sp) (hgu : X.A.guards = some []) (hr : Room k X.A) (hb : Binds X.K fd ps []) (hx : PassesAt CX X σ (E σ))
    (I : Inv X pins σ H s) (r : Vals vs us) (h : sp vs H Q (E σ)) : wpAny (model X.prog X.w) X.A (call (.ref f) us) (EP X pins σ Q) X.xe s := by
  have b := hb s us I.kIn (by rw [List.append_nil, ← r.length]; exact F.len _ _ _ _ h)
  rw [List.append_nil] at b
  refine wpAny_call (codeAny_mono (F.run X.A X.stack s H ⟨us, []⟩ us vs Q (E σ) hgu hr I.env0 b r h) ?_)
  rintro (e | fl) s' hq
  · exact hx pins H s e s' I hq
  · cases fl with
    | ret u => exact I.after hq
    | next => cases hq
    | brk => cases hq
    | cont => cases hq
theorem pe_callG (F : FnG X.prog X.w X.K X.mg X.base CX k f fd ps sp) (hgu : X.A.guards = some []) (hr : Room k X.A) (hg : Gl X x) (hm : X.mg x = some (.ref f)) (hk : PySem.W.keepIn X.K (.ref f) = true) (hb : Binds X.K fd ps []) (hx : ∀ σ, PassesAt CX X σ (E σ))
    (ha : PA X (e :: es) t) (hdb : (x == ("__debug__" : Str)) = false := by decide) (he : starEach (e :: es) X.env = (false, eval e X.env) :: starEach es X.env := by rfl) (hpl : (backTo pos (starEach es X.env)).any (·.1) = false := by rfl) :
    PE X (.Call (.Name x p) (e :: es) [] pos) (tCallS sp E t) :=
  ⟨fun pins s σ H Q I h => wpAny_Call_Name_kw (ld_glob I hg hm (PySem.W.callWith_K (h₀ := X.base) I.ok.mod.kin hk (thn (ha.run pos pins s σ H _ I h) fun us s1 ⟨vs, H1, I1, r, q⟩ => ⟨I1.kIn, run_fnG F hgu hr hb (hx σ) I1 r q⟩) he hpl) hdb)⟩
end
section
variable {X : Cx} {W : WX} {e a b c : Expr} {es : List Expr} {pos p : Pos} {x : Str} {st : Stmt} {sts : List Stmt}
theorem ex_callG {k n : Nat} {f : Addr} {fd : FuncData} {ps : List Str} {g : List D → Option (D ⊕ Xc)} {gs : Mx (List D)} (tk : Takes X W) (G : FnG X.prog X.w X.K X.mg X.base (L2.CX X.prog X.w) k f fd ps (spX (cxK X) X.mg n g)) (hgu : X.A.guards = some []) (hr : Room k X.A) (hg : Gl X x) (hm : X.mg x = some (.ref f)) (hk : PySem.W.keepIn X.K (.ref f) = true) (hb : Binds X.K fd ps [])
    (ha : AX X W (e :: es) gs) (hlen : ∀ ρ ds ρ', gs ρ = some (.inl ds, ρ') → ds.length = n)
    (hdb : (x == ("__debug__" : Str)) = false := by decide) (he : starEach (e :: es) X.env = (false, eval e X.env) :: starEach es X.env := by rfl) (hpl : (backTo pos (starEach es X.env)).any (·.1) = false := by rfl) : EX X W (.Call (.Name x p) (e :: es) [] pos) (xCall g gs) :=
  pe_imp (pe_callG (E := WE W) G hgu hr hg hm hk hb (fun σ => passAt tk σ) ha hdb he hpl) fun σ H Q q => by
    obtain ⟨F, ρ, r, ρ', s, eg, k⟩ := q
    rcases xb_some eg with ⟨ds, ρ1, e1, eg1⟩ | ⟨x, e1, rfl⟩
    · obtain ⟨e2, rfl⟩ := xl_some eg1
      refine ⟨F, ρ, _, _, s, e1, fun F1 H1 p1 s1 vs r1 => ⟨by rw [da_len r1]; exact hlen _ _ _ e1, F1, ds, r, s1.sub, r1, e2, fun F3 H3 gr => ?_⟩⟩
      have z := k F3 H3 (p1.trans (gr.stp σ _)) (s1.grow gr)
      cases r with
      | inl d => exact z
      | inr x => exact z
    · exact ⟨F, ρ, _, _, s, e1, fun F1 H1 p1 s1 => k F1 H1 p1 s1⟩
end
section
variable {P : Program} {w : World} {K : PySem.W.Frag} {mg : Str → Option Value} {base : Heap}
theorem fn_XG {x qual : Str} {st : Stmt} {f : Addr} {fd : FuncData} {N ps : List Str} {k : Nat} {g : Sx} (Fn : Fun K x qual st f fd) (S : FnScope N ps (defScope st))
    (hbody : ∀ (cdv : Value) (A : Around) (outer : List PySem.Env) (s : Shared) (H : Hp) (E : XK), A.guards = some [] → Room k (A.deeper (envOfC qual (defScope st) s.heap.objs.size f cdv)) → SXs (cxOf (L2.CX P w) P w K mg base N qual (defScope st) f cdv A outer s H E) (fun cls d _ H => E cls d H) (defBody st) g) :
    FnG P w K mg base (L2.CX P w) (k + 1) f fd ps (spX ⟨K, P, w⟩ mg ps.length (runX N.length g)) := by
  refine fn_ofG Fn S (fun vs H Q E h => h.1) fun cdv A outer s H vs Q E hgu hr h => ⟨_, hbody cdv A outer s H E hgu hr, ?_⟩
  obtain ⟨_, F, ds, r, sf, hd, ef, k⟩ := h
  obtain ⟨⟨fl, ρ'⟩, e1, e2⟩ := bind_some ef
  refine ⟨F, envV N.length ds, fl, ρ', st_vals sf hd, e1, fun σ' F' H' p s' => ?_⟩
  have gr := stp_grow p s'
  cases fl with
  | inr x =>
    cases e2
    exact k F' H' gr
  | inl fl =>
    cases fl with
    | nx =>
      cases e2
      exact k F' H' gr .non .non
    | ret d =>
      cases e2
      exact fun v rv => k F' H' gr v rv
    | rof d => cases e2
    | brk => cases e2
    | cnt => cases e2
theorem fn_VG {x qual : Str} {st : Stmt} {f : Addr} {fd : FuncData} {N ps : List Str} {k : Nat} {g : Sd} (Fn : Fun K x qual st f fd) (S : FnScope N ps (defScope st))
    (hbody : ∀ (cdv : Value) (A : Around) (outer : List PySem.Env) (s : Shared) (H : Hp) (E : XK), A.guards = some [] → Room k (A.deeper (envOfC qual (defScope st) s.heap.objs.size f cdv)) → DSs (cxOf CX0 P w K mg base N qual (defScope st) f cdv A outer s H E).nox (defBody st) g) :
    FnG P w K mg base CX0 (k + 1) f fd ps (spV ⟨K, P, w⟩ ps.length (runV N.length g)) := by
  refine fn_ofG Fn S (fun vs H Q E h => h.1) fun cdv A outer s H vs Q E hgu hr h => ⟨_, (hbody cdv A outer s H E hgu hr).nox, ?_⟩
  obtain ⟨_, F, ds, r, sf, hd, ef, k⟩ := h
  obtain ⟨⟨fl, ρ'⟩, e1, e2⟩ := bind_some ef
  refine ⟨F, envV N.length ds, fl, ρ', st_vals sf hd, e1, fun σ' F' H' p s' => ?_⟩
  have gr := stp_grow p s'
  cases fl with
  | nx =>
    cases e2
    exact k .non F' H' gr .non
  | ret d =>
    cases e2
    exact fun v rv => k v F' H' gr rv
  | rof d => cases e2
  | brk => cases e2
  | cnt => cases e2
end
theorem passAt0 {X : Cx} {σ : L2.St} {E : XK} : PassesAt CX0 X σ E := fun _ _ _ _ _ _ h => h.elim
section
variable {X : Cx} {W : WX} {e a b c : Expr} {es : List Expr} {pos p : Pos} {x : Str} {st : Stmt} {sts : List Stmt}
theorem de_callG {k n : Nat} {f : Addr} {fd : FuncData} {ps : List Str} {g : List D → Option D} {gs : Md (List D)} (G : FnG X.prog X.w X.K X.mg X.base CX0 k f fd ps (spV (cxK X) n g)) (hgu : X.A.guards = some []) (hr : Room k X.A) (hg : Gl X x) (hm : X.mg x = some (.ref f)) (hk : PySem.W.keepIn X.K (.ref f) = true) (hb : Binds X.K fd ps []) (hn : (e :: es).length = n) (ha : DA X (e :: es) gs) (hlen : ∀ ρ ds ρ', gs ρ = some (ds, ρ') → ds.length = n)
    (hdb : (x == ("__debug__" : Str)) = false := by decide) (he : starEach (e :: es) X.env = (false, eval e X.env) :: starEach es X.env := by rfl) (hpl : (backTo pos (starEach es X.env)).any (·.1) = false := by rfl) : DE X (.Call (.Name x p) (e :: es) [] pos) (gApp g gs) :=
  pe_imp (pe_callG (E := fun _ _ _ _ => False) G hgu hr hg hm hk hb (fun _ => passAt0) ha hdb he hpl) fun σ H Q q => by
    obtain ⟨F, ρ, d, ρ', s, eg, k⟩ := q
    obtain ⟨⟨ds, ρ1⟩, e1, eg1⟩ := bind_some eg
    obtain ⟨z, e3, eg2⟩ := bind_some eg1
    cases eg2
    exact ⟨F, ρ, ds, _, s, e1, fun vs F1 H1 p1 s1 r1 => ⟨by rw [da_len r1]; exact hlen _ _ _ e1, F1, ds, _, s1.sub, r1, e3, fun w F3 H3 gr rw' => k w F3 H3 (p1.trans (gr.stp σ _)) (s1.grow gr) rw'⟩⟩
end
section
variable {X : Cx} {W : WX}
theorem de_callX0G {e : Expr} {es : List Expr} {x : Str} {p pos : Pos} {k n : Nat} {f : Addr} {fd : FuncData} {ps : List Str} {g : List D → Option (D ⊕ Xc)} {gs : Md (List D)} (G : FnG X.prog X.w X.K X.mg X.base (L2.CX X.prog X.w) k f fd ps (spX (cxK X) X.mg n g)) (hgu : X.A.guards = some []) (hr : Room k X.A) (hg : Gl X x) (hm : X.mg x = some (.ref f)) (hk : PySem.W.keepIn X.K (.ref f) = true) (hb : Binds X.K fd ps [])
    (ha : DA X (e :: es) gs) (hlen : ∀ ρ ds ρ', gs ρ = some (ds, ρ') → ds.length = n)
    (hdb : (x == ("__debug__" : Str)) = false := by decide) (he : starEach (e :: es) X.env = (false, eval e X.env) :: starEach es X.env := by rfl) (hpl : (backTo pos (starEach es X.env)).any (·.1) = false := by rfl) : DE X (.Call (.Name x p) (e :: es) [] pos) (gApp (noR g) gs) :=
  pe_imp (pe_callG (E := fun _ _ _ _ => False) G hgu hr hg hm hk hb (fun σ pins H s e s' I c => by
    obtain ⟨_, _, _, _, _, _, _, _, _, _, _, _, h⟩ := c
    exact h.elim) ha hdb he hpl) fun σ H Q q => by
    obtain ⟨F, ρ, d, ρ', s, eg, k⟩ := q
    obtain ⟨⟨ds, ρ1⟩, e1, eg1⟩ := bind_some eg
    obtain ⟨d1, e2, eg2⟩ := bind_some eg1
    cases eg2
    refine ⟨F, ρ, ds, ρ1, s, e1, fun vs F1 H1 p1 s1 r1 => ⟨by rw [da_len r1]; exact hlen _ _ _ e1, F1, ds, _, s1.sub, r1, noR_some e2, fun F3 H3 gr v rv => ?_⟩⟩
    exact k v F3 H3 (p1.trans (gr.stp σ _)) (s1.grow gr) rv
end
end Dn
set_option maxHeartbeats 2000000
namespace Dn
open PySem PySem.Spec PyProof.Rows L2
def mulR : D → D → Option D
  | .tuple xs, .int n => if 2 ≤ n ∧ n ≤ 1000 ∧ xs.length ≤ 1000 ∧ xs.length ≠ 0 then some (.tuple (List.replicate n.toNat xs).flatten) else none
  | _, _ => none
theorem da_rep {K : Kx} {H : Hp} {vs : List V} {ds : List D} (h : RpAll K H vs ds) : ∀ n : Nat, RpAll K H (List.replicate n vs).flatten (List.replicate n ds).flatten
  | 0 => .nil
  | n + 1 => by
    rw [List.replicate_succ, List.replicate_succ, List.flatten_cons, List.flatten_cons]
    exact da_app h (da_rep h n)
theorem op_mulR {X : Cx} : OpR X (binaryOp .Mult) (rP2 (cxK X) mulR) := by
  intro pins s σ H x y v u Q I rx ry h
  obtain ⟨F, d, e, r, sf, hd, he, ef, k⟩ := h
  unfold mulR at ef
  split at ef
  · split at ef
    · rename_i z n hl
      cases ef
      cases he
      cases hd with
      | tup h1 d1 =>
        rename_i a xs
        obtain ⟨h2, h3, h4, h5⟩ := hl
        have hln := da_len d1
        refine op_repT pins s σ H _ _ v u Q I rx ry ⟨a, n, xs, rfl, rfl, seqT_same sf h1, fun e => ?_, h2, h3, by omega, fun p hp => ?_⟩
        · rw [e] at hln
          exact h5 hln.symm
        · have gr : Grow F H (upd F p (.tup (List.replicate n.toNat xs).flatten)) (upd H p (.tup (List.replicate n.toNat xs).flatten)) := Grow.val sf hp
          exact k _ _ _ gr (.tup (.inl (.inl upd_same)) (dpAll_mono gr.ff _ _ (da_rep d1 _)))
    · cases ef
  · cases ef
/-- one class, taken -/
def h1 (n : Str) : Str → Option Bool := fun c => if c = n then some true else none
section
variable {X : Cx} {W : WX} {x n n0 n2 : Str} {c : Value} {i : Nat} {body : List Stmt} {arg : Expr} {np p2 cpos rpos pos pos' : Pos}
theorem sx_tryR1 {gb : Sx} {g : Str → Md D} {k : Nat} {C0 C2 Tc fI : Addr} (hs : X.stack = X.env :: X.outer) (hf : X.env.frame = some X.env.locals) (hN : X.N.Nodup) (hi : X.N[i]? = some n) (hln : X.env.kindOf n = some .local) (hc : Names X x c) (tk : L2.Takes X W) (hW : ∀ cls d σ σ' H, W cls d σ H → W cls d σ' H)
    (hb : ∀ (W : WX) (pn : List (Addr × Obj)) (xe : Value → Shared → Prop), L2N.Takes (X.tr pn xe) W → PassesOwn (model X.prog X.w) X.A X.env xe → SXs (X.tr pn xe) W body gb)
    (gC : X.mg n0 = some (.ref C0)) (ex : PySem.W.exmOne X.K (.ref C0) c = some true)
    (T : Tw.TdTxt X.prog X.K X.mg n2 C2 Tc fI) (hr : Room k X.A) (hg : Gl X n2)
    (hsu : ∀ (m : Str) (a dd : Addr) (oe : Obj) (pn : List (Addr × Obj)), Zc (.ref C0) (some dd) oe → (∃ vs, oe.data = .fields vs) → ME (X.suite a ((a, oe) :: pn)) i a dd m arg (g m))
    (hdb : (n2 == ("__debug__" : Str)) = false := by decide)
    (he : starEach (arg :: []) X.env = (false, eval arg X.env) :: starEach [] X.env := by rfl) (hpl : (backTo cpos (starEach [] X.env)).any (·.1) = false := by rfl) :
    SX X W (.Try body [.ExceptHandler (some (.Name x np)) (some n) [.Raise (some (.Call (.Name n2 p2) [arg] [] cpos)) none rpos] pos'] [] [] pos) (xTryR i n2 (h1 n0) gb (fun xc => g xc.m)) :=
  sx_tryR (h := h1 n0) (gm := fun xc => g xc.m) hs hf hN hi hln hc tk hW (fun cn C b e hm => by
    unfold h1 at e
    split at e
    · rename_i q
      subst q
      cases e
      rw [gC] at hm
      cases hm
      exact ex
    · cases e) hb T hr hg (fun xc C a dd oe pn e hm hz hv => by
    unfold h1 at e
    split at e
    · rename_i q
      rw [q, gC] at hm
      cases hm
      exact hsu xc.m a dd oe pn hz hv
    · cases e) hdb he hpl
end
section
variable {X : Cx} {pos : Pos} {x : Str}
theorem de_call0 {k : Nat} {f : Addr} {fd : FuncData} {g : List D → Option D} {p : Pos} (G : FnOk X.prog X.w X.K X.mg X.base CX0 k f fd [] (spV (cxK X) 0 g)) (hr : Room k X.A) (hg : Gl X x) (hm : X.mg x = some (.ref f)) (hk : PySem.W.keepIn X.K (.ref f) = true) (hb : Binds X.K fd [] [])
    (hdb : (x == ("__debug__" : Str)) = false := by decide) : DE X (.Call (.Name x p) [] [] pos) (gApp g gNil) :=
  pe_imp (pe_callS0 (E := fun _ _ _ _ => False) G hr hg hm hk hb (fun _ => passAt0) hdb) fun σ H Q q => by
    obtain ⟨F, ρ, d, ρ', s, eg, k⟩ := q
    obtain ⟨⟨ds, ρ1⟩, e1, eg1⟩ := bind_some eg
    cases e1
    obtain ⟨z, e3, eg2⟩ := bind_some eg1
    cases eg2
    exact ⟨rfl, F, [], _, s.sub, .nil, e3, fun w F3 H3 gr rw' => k w F3 H3 (gr.stp σ _) (s.grow gr) rw'⟩
end
/-- a product whose first factor has less than 64 bits -/
def mulL : D → D → Option D
  | .int i, .int j => if -(2 ^ 64) < i ∧ i < 2 ^ 64 then some (.int (i * j)) else none
  | _, _ => none
theorem op_mulL {X : Cx} : OpR X (binaryOp .Mult) (rP2 (cxK X) mulL) := by
  intro pins s σ H x y v u Q I rx ry h
  obtain ⟨F, d, e, r, sf, hd, he, ef, k⟩ := h
  unfold mulL at ef
  split at ef
  · split at ef
    · rename_i hl
      cases ef
      cases hd
      cases he
      exact op_mul pins s σ H _ _ v u Q I rx ry ⟨_, _, rfl, rfl, .inl hl, k _ F H (Grow.refl sf) (.int _)⟩
    · cases ef
  · cases ef
end Dn
set_option maxHeartbeats 2000000
namespace Dn
open PySem PySem.Spec PyProof.Rows L2
def spXO (K : Kx) (mg : Str → Option Value) (n : Nat) (f : List D → D → Option ((D ⊕ Xc) × D)) : Sp := fun vs H Q E => vs.length = n + 1 ∧ ∃ (F : Hp) (a : Addr) (ws : List V) (d : D) (ds : List D) (r : D ⊕ Xc) (d' : D), vs = ws ++ [.ref a] ∧ Same F H ∧ OwnAt K F H a d ∧ RpAll K F ws ds ∧ f ds d = some (r, d') ∧
  ∀ F' H', Same F F' → Same F' H' → (∀ b o, H b = some o → b ≠ a → H' b = some o ∧ F' b = F b) → OwnAt K F' H' a d' → match r with
    | .inl e => ∀ v, Rp K F' v e → Q v H'
    | .inr x => ∀ (C dd : Addr), mg x.c = some (.ref C) → H' dd = some (xdM x.m) → E (.ref C) (some dd) H'
def envXO (N : Nat) (ds : List D) (d : D) : Env := vals ds ++ some (.own true d) :: List.replicate (N - (ds.length + 1)) none
def endXO : (Fl ⊕ Xc) × Env → Option (D ⊕ Xc)
  | (.inr x, _) => some (.inr x)
  | (.inl f, ρ) => (endV (f, ρ)).bind fun r => some (.inl r)
def runXO (N : Nat) (g : Sx) (ds : List D) (d : D) : Option ((D ⊕ Xc) × D) := (g (envXO N ds d)).bind fun p => (ownOf p.2[ds.length]?).bind fun d' => (endXO p).bind fun r => some (r, d')
theorem xo_get {d : D} {ds : List D} {n i : Nat} {c : Cell} (h : ((vals ds ++ some (Cell.own true d) :: List.replicate n none) : Env)[i]? = some (some c)) : (i = ds.length ∧ c = .own true d) ∨ ∃ e, i < ds.length ∧ ds[i]? = some e ∧ c = .val e := by
  have hv : (vals ds).length = ds.length := by simp [vals]
  by_cases hi : i < ds.length
  · rw [List.getElem?_append_left (by omega)] at h
    unfold vals at h
    rw [List.getElem?_map] at h
    cases q : ds[i]? with
    | none => rw [q] at h; cases h
    | some e =>
      rw [q] at h
      cases h
      exact .inr ⟨e, hi, rfl, rfl⟩
  · rw [List.getElem?_append_right (by omega), hv] at h
    obtain ⟨j, rfl⟩ : ∃ j, i = ds.length + j := ⟨i - ds.length, by omega⟩
    rw [show ds.length + j - ds.length = j by omega] at h
    cases j with
    | zero =>
      cases h
      exact .inl ⟨rfl, rfl⟩
    | succ j =>
      rw [List.getElem?_cons_succ, List.getElem?_replicate] at h
      split at h <;> cases h
section
variable {P : Program} {w : World} {K : PySem.W.Frag} {mg : Str → Option Value} {base : Heap}
theorem fn_XOG {x qual : Str} {st : Stmt} {f : Addr} {fd : FuncData} {N ps : List Str} {k n : Nat} {g : Sx} (Fn : Fun K x qual st f fd) (S : FnScope N ps (defScope st)) (hn : ps.length = n + 1) (hN : n < N.length)
    (hbody : ∀ (cdv : Value) (A : Around) (outer : List PySem.Env) (s : Shared) (H : Hp) (E : XK), A.guards = some [] → Room k (A.deeper (envOfC qual (defScope st) s.heap.objs.size f cdv)) → SXs (cxOf (L2.CX P w) P w K mg base N qual (defScope st) f cdv A outer s H E) (fun cls d _ H => E cls d H) (defBody st) g) :
    FnG P w K mg base (L2.CX P w) (k + 1) f fd ps (spXO ⟨K, P, w⟩ mg n (runXO N.length g)) := by
  refine fn_ofG Fn S (fun vs H Q E h => h.1.trans hn.symm) fun cdv A outer s H vs Q E hgu hr h => ⟨_, hbody cdv A outer s H E hgu hr, ?_⟩
  obtain ⟨hvl, F, a, ws, d, ds, r, d', rfl, sf, o, hd, ef, k⟩ := h
  obtain ⟨⟨fl, ρ'⟩, e1, e2⟩ := bind_some ef
  have hwl : ws.length = ds.length := da_len hd
  have hdn : ds.length = n := by
    rw [List.length_append] at hvl
    simp only [List.length_cons, List.length_nil] at hvl
    omega
  have hs0 : (L2.start N (ws ++ [.ref a]))[ds.length]? = some (some (.ref a)) := start_get (by rw [List.getElem?_append_right (by omega), hwl, Nat.sub_self]; rfl)
  have hst : St (Kx.mk K P w) F H (L2.start N (ws ++ [.ref a])) (envXO N.length ds d) := by
    refine ⟨sf, ?_, fun i c h => ?_, fun i j f g d e b h1 h2 _ _ => ?_⟩
    · simp [envXO, L2.start, vals, hwl]
    · rcases xo_get h with ⟨rfl, rfl⟩ | ⟨e, h0, h1, rfl⟩
      · exact ⟨a, hs0, o⟩
      · obtain ⟨v, e3, rv⟩ := da_at hd h1
        exact ⟨v, start_get (by rw [List.getElem?_append_left (by omega)]; exact e3), rv⟩
    · rcases xo_get h1 with ⟨rfl, _⟩ | ⟨_, _, _, z⟩
      · rcases xo_get h2 with ⟨rfl, _⟩ | ⟨_, _, _, z⟩
        · rfl
        · cases z
      · cases z
  refine ⟨F, envXO N.length ds d, fl, ρ', hst, e1, fun σ' F' H' p s' => ?_⟩
  have own1 : ∀ b, Owns (L2.start N (ws ++ [.ref a])) (envXO N.length ds d) b → b = a := fun b z => by
    obtain ⟨i, f, e, h1, h2⟩ := z
    rcases xo_get h1 with ⟨rfl, _⟩ | ⟨_, _, _, z⟩
    · rw [hs0] at h2
      cases h2
      rfl
    · cases z
  have hev : (envXO N.length ds d)[ds.length]? = some (some (.own true d)) := by
    unfold envXO
    rw [List.getElem?_append_right (by simp [vals])]
    simp [vals]
  obtain ⟨f1, d1, f3⟩ := p.fix ds.length d hev
  have o' : OwnAt (Kx.mk K P w) F' H' a d1 := by
    obtain ⟨b, z1, z2⟩ := s'.cell _ _ f3
    rw [f1, hs0] at z1
    cases z1
    exact z2
  have kp : ∀ b u, H b = some u → b ≠ a → H' b = some u ∧ F' b = F b := fun b u h n => p.keep b u h fun z => n (own1 b z)
  have e4 : (endXO (fl, ρ')).bind (fun r => some (r, d1)) = some (r, d') := by
    have e5 : ((ownOf ρ'[ds.length]?).bind fun d' => (endXO (fl, ρ')).bind fun r => some (r, d')) = some (r, d') := e2
    rw [f3] at e5
    exact e5
  cases fl with
  | inr x =>
    cases e4
    exact k F' H' p.ff s'.sub kp o'
  | inl fl =>
    cases fl with
    | nx =>
      cases e4
      exact k F' H' p.ff s'.sub kp o' .non .non
    | ret d =>
      cases e4
      exact fun v rv => k F' H' p.ff s'.sub kp o' v rv
    | rof d => cases e4
    | brk => cases e4
    | cnt => cases e4
end
section
variable {X : Cx} {W : WX} {a b : Expr} {pos p py : Pos} {x y : Str}
def gCallXO (i : Nat) (f : List D → D → Option ((D ⊕ Xc) × D)) (g1 g2 : Md D) : Mx D := fun ρ => (g1 ρ).bind fun p1 => (g2 p1.2).bind fun p2 => match p2.2[i]? with
  | some (some (.own b d)) => (f [p1.1, p2.1] d).bind fun q => some (q.1, p2.2.set i (some (.own b q.2)))
  | _ => none
theorem ex_callXOG (i : Nat) {k : Nat} {f : Addr} {fd : FuncData} {ps : List Str} {g : List D → D → Option ((D ⊕ Xc) × D)} {g1 g2 : Md D} (tk : L2.Takes X W) (G : FnG X.prog X.w X.K X.mg X.base (L2.CX X.prog X.w) k f fd ps (spXO (cxK X) X.mg 2 g)) (hgu : X.A.guards = some []) (hr : Room k X.A) (hg : Gl X x) (hm : X.mg x = some (.ref f)) (hk : PySem.W.keepIn X.K (.ref f) = true) (hb : Binds X.K fd ps [])
    (h1 : DE X a g1) (h2 : DE X b g2) (hN : X.N[i]? = some y := by rfl) (hv : Vis X.env.scope y := by first | exact Or.inl rfl | exact Or.inr (Or.inl rfl) | exact Or.inr (Or.inr rfl))
    (hdb : (x == ("__debug__" : Str)) = false := by decide) (hdy : (y == ("__debug__" : Str)) = false := by decide) (hcd : (y == ("__classdict__" : Str)) = false := by decide)
    (he : starEach [a, b, .Name y py] X.env = (false, eval a X.env) :: starEach [b, .Name y py] X.env := by rfl) (he2 : starEach [b, .Name y py] X.env = (false, eval b X.env) :: starEach [.Name y py] X.env := by rfl) (he3 : starEach [.Name y py] X.env = (false, eval (.Name y py) X.env) :: starEach [] X.env := by rfl)
    (hpl : (backTo pos (starEach [b, .Name y py] X.env)).any (·.1) = false := by rfl) : EX X W (.Call (.Name x p) [a, b, .Name y py] [] pos) (gCallXO i g g1 g2) :=
  pe_imp (pe_callG (E := WE W) G hgu hr hg hm hk hb (fun σ => passAt tk σ) (pa_cons h1 (pa_cons h2 (pa_cons (pe_var hN hv hdy hcd) pa_nil he3) he2) he) hdb he hpl) fun σ H Q q => by
    obtain ⟨F, ρ, r, ρ', s, eg, k⟩ := q
    obtain ⟨⟨x1, ρ1⟩, e1, eg⟩ := bind_some eg
    obtain ⟨⟨x2, ρ2⟩, e2, eg⟩ := bind_some eg
    refine ⟨F, ρ, x1, ρ1, s, e1, fun v1 F1 H1 p1 s1 r1 => ⟨F1, ρ1, x2, ρ2, s1, e2, fun v2 F2 H2 p2 s2 r2 => ?_⟩⟩
    simp only at eg
    split at eg
    · rename_i b0 d0 h0
      obtain ⟨⟨q, d'⟩, e3, eg⟩ := bind_some eg
      cases eg
      obtain ⟨a0, ea, oa, _⟩ := st_owned s2 h0
      refine ⟨.ref a0, ea, rfl, F2, a0, [v1, v2], d0, [x1, x2], q, d', rfl, s2.sub, oa, .cons (dp_mono p2.ff _ _ r1) (.cons r2 .nil), e3, fun F3 H3 sf sh kp o => ?_⟩
      obtain ⟨s3, p3⟩ := st_own_set s2 h0 ea sf sh kp o
      have z := k F3 H3 ((p1.trans p2).trans p3) s3
      cases q with
      | inl d => exact z
      | inr x => exact z
    · cases eg
end
end Dn
set_option maxHeartbeats 2000000
namespace Dm
open DnSo
open PySem Dn
/-- what is raised in a suite -/
def rzQ (i : Nat) (n2 : Str) (R : Xc → Dn.Env → Prop) : D → Dn.Env → Prop
  | .str m, ρ => notOwn ρ i = true ∧ R ⟨n2, m⟩ (ρ.set i none)
  | _, _ => False
theorem rzq_str {i : Nat} {n2 m : Str} {R : Xc → Dn.Env → Prop} {ρ : Dn.Env} : rzQ i n2 R (.str m) ρ ↔ notOwn ρ i = true ∧ R ⟨n2, m⟩ (ρ.set i none) := Iff.rfl
theorem wx_tryR {ρ : Dn.Env} {i : Nat} {n2 : Str} {h : Str → Option Bool} {gb : Sx} {gm : Xc → Md D} {S : Fl → Dn.Env → Prop} {R : Xc → Dn.Env → Prop} : Wx (xTryR i n2 h gb gm) ρ S R ↔ Wx gb ρ S fun x ρ1 => Wo (h x.c) fun b => if b = true then (notOwn ρ1 i = true ∧ i < ρ1.length) ∧ Wm (gm x) (ρ1.set i none) (rzQ i n2 R) else R x ρ1 := by
  unfold Wx xTryR
  rw [wo_bind]
  refine Iff.of_eq (congrArg _ (funext fun p => ?_))
  obtain ⟨f, ρ1⟩ := p
  cases f with
  | inl f => exact propext wo_some
  | inr x =>
    refine propext ?_
    show Wo ((h x.c).bind _) _ ↔ Wo (h x.c) _
    rw [wo_bind]
    refine Iff.of_eq (congrArg _ (funext fun b => propext ?_))
    cases b with
    | false =>
      show Wo (if _ then _ else _) _ ↔ _
      rw [if_neg (by simp), if_neg (by simp)]
      exact wo_some
    | true =>
      show Wo (if true = true then _ else _) _ ↔ _
      rw [if_pos rfl, if_pos rfl]
      by_cases c : notOwn ρ1 i = true ∧ i < ρ1.length
      · rw [if_pos c, wo_bind]
        refine ⟨fun q => ⟨c, wo_mono q fun p h => ?_⟩, fun q => wo_mono q.2 fun p h => ?_⟩
        all_goals
          obtain ⟨d, ρ2⟩ := p
          cases d with
          | str m =>
            first
              | (by_cases n : notOwn ρ2 i = true
                 · have h : Wo (if notOwn ρ2 i = true then _ else _) _ := h
                   rw [if_pos n, wo_some] at h
                   exact ⟨n, h⟩
                 · have h : Wo (if notOwn ρ2 i = true then _ else _) _ := h
                   rw [if_neg n, wo_none] at h
                   exact h.elim)
              | (obtain ⟨n, h⟩ := h
                 show Wo (if notOwn ρ2 i = true then _ else _) _
                 rw [if_pos n, wo_some]
                 exact h)
          | none => exact (by first | exact h.elim | exact (wo_none.mp h).elim)
          | bool _ => exact (by first | exact h.elim | exact (wo_none.mp h).elim)
          | int _ => exact (by first | exact h.elim | exact (wo_none.mp h).elim)
          | list _ => exact (by first | exact h.elim | exact (wo_none.mp h).elim)
          | tuple _ => exact (by first | exact h.elim | exact (wo_none.mp h).elim)
          | dict _ => exact (by first | exact h.elim | exact (wo_none.mp h).elim)
      · rw [if_neg c, wo_none]
        exact ⟨fun q => q.elim, fun q => (c q.1).elim⟩
theorem h1_hd {n : Str} : h1 n n = some true := if_pos rfl
theorem mulL_ii {i j : Int} : mulL (.int i) (.int j) = if -(2 ^ 64) < i ∧ i < 2 ^ 64 then some (.int (i * j)) else none := rfl
theorem mulR_ti {xs : List D} {n : Int} : mulR (.tuple xs) (.int n) = if 2 ≤ n ∧ n ≤ 1000 ∧ xs.length ≤ 1000 ∧ xs.length ≠ 0 then some (.tuple (List.replicate n.toNat xs).flatten) else none := rfl
theorem wx_callXO {ρ : Dn.Env} {i : Nat} {f : List D → D → Option ((D ⊕ Xc) × D)} {g1 g2 : Md D} {Q : D → Dn.Env → Prop} {R : Xc → Dn.Env → Prop} : Wx (gCallXO i f g1 g2) ρ Q R ↔ Wm g1 ρ fun x ρ1 => Wm g2 ρ1 fun y ρ2 => Wo (cOwn ρ2[i]?) fun p => Wo (f [x, y] p.2) fun q => eitherQ Q R q.1 (ρ2.set i (some (.own p.1 q.2))) := by
  unfold Wx Wm gCallXO
  rw [wo_bind]
  refine Iff.of_eq (congrArg _ (funext fun p1 => propext ?_))
  obtain ⟨x, ρ1⟩ := p1
  show Wo ((g2 ρ1).bind _) _ ↔ _
  rw [wo_bind]
  refine Iff.of_eq (congrArg _ (funext fun p2 => propext ?_))
  obtain ⟨y, ρ2⟩ := p2
  show Wo (match ρ2[i]? with | some (some (.own b d)) => _ | _ => none) _ ↔ Wo (cOwn ρ2[i]?) _
  cases h : ρ2[i]? with
  | none => exact wo_none.trans wo_none.symm
  | some c =>
    cases c with
    | none => exact wo_none.trans wo_none.symm
    | some c =>
      cases c with
      | val d => exact wo_none.trans wo_none.symm
      | own b d =>
        show Wo ((f [x, y] d).bind _) _ ↔ _
        rw [wo_bind]
        simp only [wo_some, cOwn_own]
def endOQ (n : Nat) (Q : (D ⊕ Xc) × D → Prop) : Fl → Dn.Env → Prop
  | .nx, ρ => Wo (ownOf ρ[n]?) fun d => Q (.inl .none, d)
  | .ret e, ρ => Wo (ownOf ρ[n]?) fun d => Q (.inl e, d)
  | _, _ => False
theorem endoq_nx {n : Nat} {Q : (D ⊕ Xc) × D → Prop} {ρ : Dn.Env} : endOQ n Q .nx ρ ↔ Wo (ownOf ρ[n]?) fun d => Q (.inl .none, d) := Iff.rfl
theorem endoq_ret {n : Nat} {Q : (D ⊕ Xc) × D → Prop} {ρ : Dn.Env} {e : D} : endOQ n Q (.ret e) ρ ↔ Wo (ownOf ρ[n]?) fun d => Q (.inl e, d) := Iff.rfl
theorem wo_runXO {N : Nat} {g : Sx} {ds : List D} {d : D} {Q : (D ⊕ Xc) × D → Prop} : Wo (runXO N g ds d) Q ↔ Wx g (envXO N ds d) (endOQ ds.length Q) fun x ρ => Wo (ownOf ρ[ds.length]?) fun d' => Q (.inr x, d') := by
  unfold Wx runXO
  rw [wo_bind]
  refine Iff.of_eq (congrArg _ (funext fun p => propext ?_))
  obtain ⟨f, ρ1⟩ := p
  show Wo ((ownOf ρ1[ds.length]?).bind _) _ ↔ _
  rw [wo_bind]
  cases f with
  | inr x => exact Iff.of_eq (congrArg _ (funext fun d' => propext wo_some))
  | inl f =>
    cases f with
    | nx => exact Iff.of_eq (congrArg _ (funext fun d' => propext wo_some))
    | ret e => exact Iff.of_eq (congrArg _ (funext fun d' => propext wo_some))
    | rof e => exact ⟨fun h => by obtain ⟨_, _, h⟩ := h; exact wo_none.mp h, fun h => h.elim⟩
    | brk => exact ⟨fun h => by obtain ⟨_, _, h⟩ := h; exact wo_none.mp h, fun h => h.elim⟩
    | cnt => exact ⟨fun h => by obtain ⟨_, _, h⟩ := h; exact wo_none.mp h, fun h => h.elim⟩
end Dm
set_option maxHeartbeats 4000000
namespace Lw
open PySem PySem.Spec PyProof.Rows L2 Dn
def topS (i : Nat) : Stmt := PySem.Challenge.pw_tideweir_k41_plans_that_are_refused.main.body.getD i (.Pass ⟨0, 0, 0, 0⟩)
abbrev s__law_r_fields : Stmt := topS 40
abbrev N__law_r_fields : List Str := []
theorem sc__law_r_fields : FnScope N__law_r_fields [] (defScope s__law_r_fields) := ⟨rfl, rfl, rfl, by decide +kernel, rfl, by decide +kernel, by decide +kernel⟩
def g__law_r_fields : Sd := (sRet (gApp mkTup (gCons (gApp mkTup (gCons (gC (.str "j")) (gCons (gC (.str "text")) gNil))) (gCons (gApp mkTup (gCons (gC (.str "m")) (gCons (gC (.str "whole")) gNil))) gNil))))
def f__law_r_fields : List D → Option D := runV 0 g__law_r_fields
abbrev s__law_s_fields : Stmt := topS 39
abbrev N__law_s_fields : List Str := []
theorem sc__law_s_fields : FnScope N__law_s_fields [] (defScope s__law_s_fields) := ⟨rfl, rfl, rfl, by decide +kernel, rfl, by decide +kernel, by decide +kernel⟩
def g__law_s_fields : Sd := (sRet (gApp mkTup (gCons (gApp mkTup (gCons (gC (.str "k")) (gCons (gC (.str "text")) gNil))) (gCons (gApp mkTup (gCons (gC (.str "n")) (gCons (gC (.str "whole")) gNil))) (gCons (gApp mkTup (gCons (gC (.str "f")) (gCons (gC (.str "flag")) gNil))) gNil)))))
def f__law_s_fields : List D → Option D := runV 0 g__law_s_fields
abbrev s__law_broken : Stmt := topS 51
abbrev N__law_broken : List Str := ["plan", "row", "kind", "at", "operator", "inputs", "wrong"]
theorem sc__law_broken : FnScope N__law_broken ["plan", "row"] (defScope s__law_broken) := ⟨rfl, rfl, rfl, by decide +kernel, rfl, by decide +kernel, by decide +kernel⟩
def g__law_broken : Sd := (sSeq (sSet 2 (gBin modD (gApp intF (gCons (gVar 1) gNil)) (gC (.int 7))))
  (sSeq (sSet 3 (gIfE (gTst (gBin gtD (gApp lenF (gCons (gVar 0) gNil)) (gC (.int 2)))) (gBin addD (gC (.int 2)) (gBin modD (gApp intF (gCons (gBin fdivD (gVar 1) (gC (.int 7))) gNil)) (gBin subD (gApp lenF (gCons (gVar 0) gNil)) (gC (.int 2))))) (gC (.int 0))))
  (sSeq (sAsg (gBin ixD (gVar 0) (gVar 3)) (gTTup 2 (gTCons (gTN 4) (gTCons (gTN 5) gTNil))))
  (sSeq (sIf (gTst (gBin eqD (gVar 2) (gC (.int 0)))) (sRet (gApp mkTup (gCons (gApp mkTup gNil) (gCons (gC (.str "no nodes")) gNil)))) sNext)
  (sSeq (sIf (gTst (gBin eqD (gVar 2) (gC (.int 1)))) (sRet (gApp mkTup (gCons (gBin addD (gVar 0) (gBin mulR (gApp mkTup (gCons (gApp mkTup (gCons (gApp mkTup (gCons (gC (.str "source")) (gCons (gC (.str "s")) (gCons (gApp f__law_s_fields gNil) gNil)))) (gCons (gApp mkTup gNil) gNil))) gNil)) (gBin subD (gC (.int 17)) (gApp lenF (gCons (gVar 0) gNil))))) (gCons (gC (.str "more than 16 nodes")) gNil)))) sNext)
  (sSeq (sIf (gTst (gBin eqD (gVar 2) (gC (.int 2)))) (sRet (gApp mkTup (gCons (gBin addD (gBin addD (gSl (gVar 0) gNoP (gPart (gVar 3))) (gApp mkTup (gCons (gApp mkTup (gCons (gVar 4) (gCons (gBin addD (gVar 5) (gApp mkTup (gCons (gC (.int 0)) gNil))) gNil))) gNil))) (gSl (gVar 0) (gPart (gBin addD (gVar 3) (gC (.int 1)))) gNoP)) (gCons (gBin addD (gBin addD (gC (.str "node ")) (gApp strF (gCons (gVar 3) gNil))) (gC (.str ": inputs"))) gNil)))) sNext)
  (sSeq (sIf (gTst (gBin eqD (gVar 2) (gC (.int 3)))) (sSeq (sSet 6 (gSl (gBin addD (gVar 5) (gApp mkTup (gCons (gC (.int 0)) gNil))) gNoP (gPart (gBin addD (gApp lenF (gCons (gVar 5) gNil)) (gApp intF (gCons (gBin eqD (gVar 3) (gC (.int 0))) gNil))))))
  (sSeq (sSet 6 (gBin addD (gSl (gVar 6) gNoP (gPart (gUn negD (gC (.int 1))))) (gApp mkTup (gCons (gBin ixD (gApp mkLst (gCons (gVar 3) (gCons (gBin addD (gVar 3) (gC (.int 1))) (gCons (gUn negD (gC (.int 1))) gNil)))) (gBin modD (gApp intF (gCons (gBin fdivD (gVar 1) (gC (.int 70))) gNil)) (gC (.int 3)))) gNil))))
  (sRet (gApp mkTup (gCons (gBin addD (gBin addD (gSl (gVar 0) gNoP (gPart (gVar 3))) (gApp mkTup (gCons (gApp mkTup (gCons (gVar 4) (gCons (gVar 6) gNil))) gNil))) (gSl (gVar 0) (gPart (gBin addD (gVar 3) (gC (.int 1)))) gNoP)) (gCons (gBin addD (gBin addD (gC (.str "node ")) (gApp strF (gCons (gVar 3) gNil))) (gC (.str ": inputs"))) gNil)))))) sNext)
  (sSeq (sIf (gTst (gBin eqD (gVar 2) (gC (.int 4)))) (sRet (gApp mkTup (gCons (gBin addD (gVar 0) (gApp mkTup (gCons (gApp mkTup (gCons (gApp mkTup (gCons (gC (.str "source")) (gCons (gC (.str "s")) (gCons (gApp f__law_r_fields gNil) gNil)))) (gCons (gApp mkTup gNil) gNil))) gNil))) (gCons (gBin addD (gBin addD (gC (.str "node ")) (gApp strF (gCons (gApp lenF (gCons (gVar 0) gNil)) gNil))) (gC (.str ": other fields"))) gNil)))) sNext)
  (sSeq (sIf (gTst (gBin eqD (gVar 2) (gC (.int 5)))) (sRet (gApp mkTup (gCons (gBin addD (gVar 0) (gApp mkTup (gCons (gApp mkTup (gCons (gApp mkTup (gCons (gC (.str "filter")) (gCons (gApp mkTup (gCons (gC (.str "column")) (gCons (gC (.str "zz")) gNil))) gNil))) (gCons (gApp mkTup (gCons (gC (.int 0)) gNil)) gNil))) gNil))) (gCons (gBin addD (gBin addD (gC (.str "node ")) (gApp strF (gCons (gApp lenF (gCons (gVar 0) gNil)) gNil))) (gC (.str ": there is no column zz"))) gNil)))) sNext)
  (sRet (gApp mkTup (gCons (gBin addD (gVar 0) (gApp mkTup (gCons (gApp mkTup (gCons (gApp mkTup (gCons (gC (.str "filter")) (gCons (gApp mkTup (gCons (gC (.str "column")) (gCons (gC (.str "n")) gNil))) gNil))) (gCons (gApp mkTup (gCons (gC (.int 0)) gNil)) gNil))) gNil))) (gCons (gBin addD (gBin addD (gC (.str "node ")) (gApp strF (gCons (gApp lenF (gCons (gVar 0) gNil)) gNil))) (gC (.str ": types differ"))) gNil)))))))))))))
def f__law_broken : List D → Option D := runV 7 g__law_broken
abbrev s__law_columns : Stmt := topS 41
abbrev N__law_columns : List Str := ["fields", "kind", "pair"]
theorem sc__law_columns : FnScope N__law_columns ["fields", "kind"] (defScope s__law_columns) := ⟨rfl, rfl, rfl, by decide +kernel, rfl, by decide +kernel, by decide +kernel⟩
def g__law_columns : Sd := (sRet (gLc [2] (gSeq (gVar 0)) (gTN 2) (gOr (gTst (gBin isD (gVar 1) (gC .none))) (gTst (gBin eqD (gBin ixD (gVar 2) (gC (.int 1))) (gVar 1)))) (gBin ixD (gVar 2) (gC (.int 0)))))
def f__law_columns : List D → Option D := runV 3 g__law_columns
abbrev s__law_pick : Stmt := topS 42
abbrev N__law_pick : List Str := ["names", "row"]
theorem sc__law_pick : FnScope N__law_pick ["names", "row"] (defScope s__law_pick) := ⟨rfl, rfl, rfl, by decide +kernel, rfl, by decide +kernel, by decide +kernel⟩
def g__law_pick : Sd := (sSeq (sIf (gTst (gBin eqD (gApp lenF (gCons (gVar 0) gNil)) (gC (.int 0)))) (sRet (gC (.str "none"))) sNext)
  (sRet (gBin ixD (gVar 0) (gBin modD (gApp intF (gCons (gVar 1) gNil)) (gApp lenF (gCons (gVar 0) gNil))))))
def f__law_pick : List D → Option D := runV 2 g__law_pick
abbrev s__law_aggs : Stmt := topS 45
abbrev N__law_aggs : List Str := ["fields", "row", "more", "words", "aggs", "j", "word", "names", "column"]
theorem sc__law_aggs : FnScope N__law_aggs ["fields", "row", "more"] (defScope s__law_aggs) := ⟨rfl, rfl, rfl, by decide +kernel, rfl, by decide +kernel, by decide +kernel⟩
def g__law_aggs : Sd := (sSeq (sSet 3 (gBin addD (gApp mkLst (gCons (gC (.str "count")) (gCons (gC (.str "sum")) (gCons (gC (.str "least")) (gCons (gC (.str "most")) (gCons (gC (.str "mean")) gNil)))))) (gVar 2)))
  (sSeq (sOwn 4 (gApp mkLst gNil))
  (sSeq (sFor (gRng1 (gCons (gBin addD (gC (.int 1)) (gBin modD (gApp intF (gCons (gVar 1) gNil)) (gC (.int 2)))) gNil)) (gTN 5)
  (sSeq (sSet 6 (gBin ixD (gVar 3) (gBin modD (gApp intF (gCons (gBin fdivD (gVar 1) (gBin addD (gC (.int 2)) (gBin mulL (gC (.int 3)) (gVar 5)))) gNil)) (gApp lenF (gCons (gVar 3) gNil)))))
  (sSeq (sSet 7 (gApp f__law_columns (gCons (gVar 0) (gCons (gIfE (gTst (gBin inD (gVar 6) (gApp mkTup (gCons (gC (.str "sum")) (gCons (gC (.str "mean")) gNil))))) (gC (.str "whole")) (gC .none)) gNil))))
  (sSeq (sSet 8 (gApp f__law_pick (gCons (gVar 7) (gCons (gBin fdivD (gVar 1) (gBin addD (gC (.int 20)) (gVar 5))) gNil))))
  (sSeq (sIf (gAnd (gTst (gBin eqD (gVar 6) (gC (.str "count")))) (gTst (gBin eqD (gBin modD (gBin fdivD (gVar 1) (gC (.int 7))) (gC (.int 2))) (gC (.int 0))))) (sSet 8 (gC .none)) sNext)
  (sApp 4 (gApp mkTup (gCons (gBin addD (gC (.str "g")) (gApp strF (gCons (gBin addD (gVar 5) (gBin modD (gApp intF (gCons (gBin fdivD (gVar 1) (gC (.int 60))) gNil)) (gC (.int 2)))) gNil))) (gCons (gVar 6) (gCons (gVar 8) gNil))))))))))
  (sRet (gApp tupF (gCons (gFrz 4) gNil))))))
def f__law_aggs : List D → Option D := runV 9 g__law_aggs
abbrev s__law_keys : Stmt := topS 46
abbrev N__law_keys : List Str := ["fields", "row", "least", "names", "keys", "j", "name"]
theorem sc__law_keys : FnScope N__law_keys ["fields", "row", "least"] (defScope s__law_keys) := ⟨rfl, rfl, rfl, by decide +kernel, rfl, by decide +kernel, by decide +kernel⟩
def g__law_keys : Sd := (sSeq (sSet 3 (gApp f__law_columns (gCons (gVar 0) (gCons (gC .none) gNil))))
  (sSeq (sOwn 4 (gApp mkLst gNil))
  (sSeq (sFor (gRng1 (gCons (gBin addD (gVar 2) (gBin modD (gApp intF (gCons (gVar 1) gNil)) (gC (.int 2)))) gNil)) (gTN 5)
  (sSeq (sSet 6 (gApp f__law_pick (gCons (gVar 3) (gCons (gBin fdivD (gVar 1) (gBin addD (gC (.int 3)) (gBin mulL (gC (.int 4)) (gVar 5)))) gNil))))
  (sIf (gTst (gInB true 4 (gVar 6))) (sApp 4 (gVar 6)) sNext)))
  (sRet (gApp tupF (gCons (gFrz 4) gNil))))))
def f__law_keys : List D → Option D := runV 7 g__law_keys
abbrev s__law_map : Stmt := topS 44
abbrev N__law_map : List Str := ["fields", "row", "names", "letters", "pairs", "j", "column", "wholes", "sum_one", "name"]
theorem sc__law_map : FnScope N__law_map ["fields", "row"] (defScope s__law_map) := ⟨rfl, rfl, rfl, by decide +kernel, rfl, by decide +kernel, by decide +kernel⟩
def g__law_map : Sd := (sSeq (sSet 2 (gApp f__law_columns (gCons (gVar 0) (gCons (gC .none) gNil))))
  (sSeq (sIf (gTst (gBin eqD (gBin modD (gVar 1) (gC (.int 4))) (gC (.int 0)))) (sRet (gApp mkTup (gCons (gC (.str "map")) (gCons (gApp tupF (gCons (gLc [9] (gSeq (gVar 2)) (gTN 9) gTrue (gApp mkTup (gCons (gVar 9) (gCons (gApp mkTup (gCons (gC (.str "column")) (gCons (gVar 9) gNil))) gNil)))) gNil)) gNil)))) sNext)
  (sSeq (sSet 3 (gApp mkLst (gCons (gC (.str "u")) (gCons (gC (.str "v")) (gCons (gC (.str "w")) (gCons (gC (.str "x")) gNil))))))
  (sSeq (sOwn 4 (gApp mkLst gNil))
  (sSeq (sFor (gRng1 (gCons (gBin addD (gC (.int 1)) (gBin modD (gApp intF (gCons (gBin fdivD (gVar 1) (gC (.int 4))) gNil)) (gC (.int 3)))) gNil)) (gTN 5)
  (sSeq (sSet 6 (gApp mkTup (gCons (gC (.str "column")) (gCons (gApp f__law_pick (gCons (gVar 2) (gCons (gBin fdivD (gVar 1) (gBin addD (gC (.int 8)) (gBin mulL (gC (.int 5)) (gVar 5)))) gNil))) gNil))))
  (sSeq (sSet 7 (gApp mkTup (gCons (gC (.str "column")) (gCons (gApp f__law_pick (gCons (gApp f__law_columns (gCons (gVar 0) (gCons (gC (.str "whole")) gNil))) (gCons (gBin fdivD (gVar 1) (gBin addD (gC (.int 9)) (gBin mulL (gC (.int 5)) (gVar 5)))) gNil))) gNil))))
  (sSeq (sSet 8 (gApp mkTup (gCons (gC (.str "binary")) (gCons (gBin ixD (gApp mkLst (gCons (gC (.str "+")) (gCons (gC (.str "*")) (gCons (gC (.str "/")) gNil)))) (gBin modD (gApp intF (gCons (gBin fdivD (gVar 1) (gC (.int 16))) gNil)) (gC (.int 3)))) (gCons (gVar 7) (gCons (gApp mkTup (gCons (gC (.str "value")) (gCons (gBin modD (gApp intF (gCons (gBin fdivD (gVar 1) (gC (.int 48))) gNil)) (gC (.int 3))) gNil))) gNil))))))
  (sApp 4 (gApp mkTup (gCons (gBin ixD (gVar 3) (gBin modD (gApp intF (gCons (gBin addD (gBin fdivD (gVar 1) (gC (.int 16))) (gVar 5)) gNil)) (gC (.int 4)))) (gCons (gBin ixD (gApp mkLst (gCons (gVar 6) (gCons (gVar 8) (gCons (gVar 6) gNil)))) (gBin modD (gApp intF (gCons (gBin fdivD (gVar 1) (gBin addD (gC (.int 11)) (gVar 5))) gNil)) (gC (.int 3)))) gNil))))))))
  (sRet (gApp mkTup (gCons (gC (.str "map")) (gCons (gApp tupF (gCons (gFrz 4) gNil)) gNil)))))))))
def f__law_map : List D → Option D := runV 10 g__law_map
abbrev s__law_on : Stmt := topS 47
abbrev N__law_on : List Str := ["one", "two", "row", "mine", "kinds", "pair"]
theorem sc__law_on : FnScope N__law_on ["one", "two", "row"] (defScope s__law_on) := ⟨rfl, rfl, rfl, by decide +kernel, rfl, by decide +kernel, by decide +kernel⟩
def g__law_on : Sd := (sSeq (sSet 3 (gApp f__law_pick (gCons (gApp f__law_columns (gCons (gVar 0) (gCons (gC .none) gNil))) (gCons (gVar 2) gNil))))
  (sSeq (sOwn 4 (gLc [5] (gSeq (gVar 0)) (gTN 5) (gTst (gBin eqD (gBin ixD (gVar 5) (gC (.int 0))) (gVar 3))) (gBin ixD (gVar 5) (gC (.int 1)))))
  (sRet (gApp mkTup (gCons (gApp mkTup (gCons (gVar 3) (gCons (gApp f__law_pick (gCons (gApp f__law_columns (gCons (gVar 1) (gCons (gIfE (gTst (gBin gtD (gPk 4 lenF) (gC (.int 0)))) (gIxB 4 (gC (.int 0))) (gC .none)) gNil))) (gCons (gBin fdivD (gVar 2) (gC (.int 8))) gNil))) gNil))) gNil)))))
def f__law_on : List D → Option D := runV 6 g__law_on
abbrev s__law_where : Stmt := topS 43
abbrev N__law_where : List Str := ["fields", "row", "kind", "wholes", "column", "texts"]
theorem sc__law_where : FnScope N__law_where ["fields", "row"] (defScope s__law_where) := ⟨rfl, rfl, rfl, by decide +kernel, rfl, by decide +kernel, by decide +kernel⟩
def g__law_where : Sd := (sSeq (sSet 2 (gBin modD (gApp intF (gCons (gVar 1) gNil)) (gC (.int 7))))
  (sSeq (sSet 3 (gApp f__law_columns (gCons (gVar 0) (gCons (gC (.str "whole")) gNil))))
  (sSeq (sSet 4 (gApp mkTup (gCons (gC (.str "column")) (gCons (gApp f__law_pick (gCons (gVar 3) (gCons (gBin fdivD (gVar 1) (gC (.int 7))) gNil))) gNil))))
  (sSeq (sIf (gTst (gBin eqD (gVar 2) (gC (.int 0)))) (sRet (gApp mkTup (gCons (gC (.str "value")) (gCons (gBin ixD (gApp mkLst (gCons (gC (.bool true)) (gCons (gC (.bool false)) (gCons (gC .none) gNil)))) (gBin modD (gApp intF (gCons (gBin fdivD (gVar 1) (gC (.int 7))) gNil)) (gC (.int 3)))) gNil)))) sNext)
  (sSeq (sIf (gTst (gBin leD (gVar 2) (gC (.int 2)))) (sRet (gApp mkTup (gCons (gC (.str "binary")) (gCons (gBin ixD (gApp mkLst (gCons (gC (.str "<")) (gCons (gC (.str "<=")) (gCons (gC (.str "==")) gNil)))) (gBin modD (gApp intF (gCons (gBin fdivD (gVar 1) (gC (.int 49))) gNil)) (gC (.int 3)))) (gCons (gVar 4) (gCons (gApp mkTup (gCons (gC (.str "value")) (gCons (gBin modD (gApp intF (gCons (gBin fdivD (gVar 1) (gC (.int 147))) gNil)) (gC (.int 4))) gNil))) gNil)))))) sNext)
  (sSeq (sIf (gTst (gBin eqD (gVar 2) (gC (.int 3)))) (sRet (gApp mkTup (gCons (gC (.str "column")) (gCons (gApp f__law_pick (gCons (gApp f__law_columns (gCons (gVar 0) (gCons (gC (.str "flag")) gNil))) (gCons (gBin fdivD (gVar 1) (gC (.int 7))) gNil))) gNil)))) sNext)
  (sSeq (sIf (gTst (gBin eqD (gVar 2) (gC (.int 4)))) (sSeq (sSet 5 (gApp mkTup (gCons (gC (.str "column")) (gCons (gApp f__law_pick (gCons (gApp f__law_columns (gCons (gVar 0) (gCons (gC (.str "text")) gNil))) (gCons (gBin fdivD (gVar 1) (gC (.int 7))) gNil))) gNil))))
  (sRet (gApp mkTup (gCons (gC (.str "binary")) (gCons (gC (.str "==")) (gCons (gVar 5) (gCons (gApp mkTup (gCons (gC (.str "value")) (gCons (gBin ixD (gApp mkLst (gCons (gC (.str "a")) (gCons (gC (.str "b")) gNil))) (gBin modD (gApp intF (gCons (gBin fdivD (gVar 1) (gC (.int 49))) gNil)) (gC (.int 2)))) gNil))) gNil))))))) sNext)
  (sSeq (sIf (gTst (gBin eqD (gVar 2) (gC (.int 5)))) (sRet (gApp mkTup (gCons (gC (.str "not")) (gCons (gApp mkTup (gCons (gC (.str "null")) (gCons (gApp mkTup (gCons (gC (.str "column")) (gCons (gApp f__law_pick (gCons (gApp f__law_columns (gCons (gVar 0) (gCons (gC .none) gNil))) (gCons (gBin fdivD (gVar 1) (gC (.int 7))) gNil))) gNil))) gNil))) gNil)))) sNext)
  (sRet (gApp mkTup (gCons (gC (.str "binary")) (gCons (gC (.str "or")) (gCons (gApp mkTup (gCons (gC (.str "null")) (gCons (gVar 4) gNil))) (gCons (gApp mkTup (gCons (gC (.str "binary")) (gCons (gC (.str "<")) (gCons (gApp mkTup (gCons (gC (.str "value")) (gCons (gC (.int 1)) gNil))) (gCons (gVar 4) gNil))))) gNil))))))))))))))
def f__law_where : List D → Option D := runV 6 g__law_where
abbrev s__law_operator : Stmt := topS 48
abbrev N__law_operator : List Str := ["fields", "other", "row", "kind", "more", "keep", "by", "window"]
theorem sc__law_operator : FnScope N__law_operator ["fields", "other", "row"] (defScope s__law_operator) := ⟨rfl, rfl, rfl, by decide +kernel, rfl, by decide +kernel, by decide +kernel⟩
def g__law_operator : Sd := (sSeq (sSet 3 (gBin modD (gApp intF (gCons (gVar 2) gNil)) (gC (.int 13))))
  (sSeq (sSet 4 (gApp intF (gCons (gBin fdivD (gVar 2) (gC (.int 13))) gNil)))
  (sSeq (sSet 5 (gBin ixD (gApp mkLst (gCons (gC (.str "inner")) (gCons (gC (.str "left")) gNil))) (gBin modD (gVar 4) (gC (.int 2)))))
  (sSeq (sIf (gTst (gBin leD (gVar 3) (gC (.int 2)))) (sRet (gApp mkTup (gCons (gC (.str "filter")) (gCons (gApp f__law_where (gCons (gVar 0) (gCons (gVar 4) gNil))) gNil)))) sNext)
  (sSeq (sIf (gTst (gBin leD (gVar 3) (gC (.int 4)))) (sRet (gApp f__law_map (gCons (gVar 0) (gCons (gVar 4) gNil)))) sNext)
  (sSeq (sIf (gTst (gBin eqD (gVar 3) (gC (.int 5)))) (sRet (gApp mkTup (gCons (gC (.str "distinct")) gNil))) sNext)
  (sSeq (sIf (gTst (gBin eqD (gVar 3) (gC (.int 6)))) (sRet (gApp mkTup (gCons (gC (.str "group")) (gCons (gApp f__law_keys (gCons (gVar 0) (gCons (gVar 4) (gCons (gC (.int 0)) gNil)))) (gCons (gApp f__law_aggs (gCons (gVar 0) (gCons (gBin fdivD (gVar 4) (gC (.int 5))) (gCons (gApp mkLst gNil) gNil)))) gNil))))) sNext)
  (sSeq (sIf (gTst (gBin eqD (gVar 3) (gC (.int 7)))) (sSeq (sSet 6 (gApp mkTup (gCons (gApp mkTup (gCons (gApp f__law_pick (gCons (gApp f__law_columns (gCons (gVar 0) (gCons (gC .none) gNil))) (gCons (gVar 4) gNil))) (gCons (gBin ixD (gApp mkLst (gCons (gC (.str "up")) (gCons (gC (.str "down")) gNil))) (gBin modD (gBin fdivD (gVar 4) (gC (.int 9))) (gC (.int 2)))) gNil))) gNil)))
  (sRet (gApp mkTup (gCons (gC (.str "top")) (gCons (gApp f__law_keys (gCons (gVar 0) (gCons (gBin fdivD (gVar 4) (gC (.int 3))) (gCons (gC (.int 0)) gNil)))) (gCons (gVar 6) (gCons (gBin addD (gC (.int 1)) (gBin modD (gBin fdivD (gVar 4) (gC (.int 18))) (gC (.int 3)))) gNil))))))) sNext)
  (sSeq (sIf (gTst (gBin eqD (gVar 3) (gC (.int 8)))) (sSeq (sSet 7 (gBin ixD (gApp mkLst (gCons (gApp mkTup (gCons (gC (.str "tumble")) (gCons (gC (.int 5)) gNil))) (gCons (gApp mkTup (gCons (gC (.str "hop")) (gCons (gC (.int 6)) (gCons (gC (.int 3)) gNil)))) (gCons (gApp mkTup (gCons (gC (.str "session")) (gCons (gC (.int 4)) gNil))) gNil)))) (gBin modD (gVar 4) (gC (.int 3)))))
  (sRet (gApp mkTup (gCons (gC (.str "window")) (gCons (gApp f__law_keys (gCons (gVar 0) (gCons (gBin fdivD (gVar 4) (gC (.int 3))) (gCons (gC (.int 0)) gNil)))) (gCons (gVar 7) (gCons (gApp f__law_aggs (gCons (gVar 0) (gCons (gBin fdivD (gVar 4) (gC (.int 5))) (gCons (gApp mkLst (gCons (gC (.str "first")) (gCons (gC (.str "last")) gNil))) gNil)))) gNil))))))) sNext)
  (sSeq (sIf (gTst (gBin eqD (gVar 3) (gC (.int 9)))) (sRet (gApp mkTup (gCons (gC (.str "first")) (gCons (gApp f__law_keys (gCons (gVar 0) (gCons (gVar 4) (gCons (gC (.int 1)) gNil)))) (gCons (gBin addD (gC (.int 1)) (gBin modD (gBin fdivD (gVar 4) (gC (.int 6))) (gC (.int 6)))) gNil))))) sNext)
  (sSeq (sIf (gTst (gBin eqD (gVar 3) (gC (.int 10)))) (sRet (gApp mkTup (gCons (gC (.str "near")) (gCons (gApp f__law_on (gCons (gVar 0) (gCons (gVar 1) (gCons (gBin fdivD (gVar 4) (gC (.int 2))) gNil)))) (gCons (gUn negD (gBin modD (gBin fdivD (gVar 4) (gC (.int 32))) (gC (.int 3)))) (gCons (gBin modD (gBin fdivD (gVar 4) (gC (.int 96))) (gC (.int 4))) (gCons (gVar 5) gNil))))))) sNext)
  (sSeq (sIf (gTst (gBin eqD (gVar 3) (gC (.int 11)))) (sRet (gApp mkTup (gCons (gC (.str "asof")) (gCons (gApp f__law_on (gCons (gVar 0) (gCons (gVar 1) (gCons (gBin fdivD (gVar 4) (gC (.int 2))) gNil)))) (gCons (gVar 5) gNil))))) sNext)
  (sRet (gBin ixD (gApp mkLst (gCons (gApp mkTup (gCons (gC (.str "join")) (gCons (gApp f__law_on (gCons (gVar 0) (gCons (gVar 1) (gCons (gBin fdivD (gVar 4) (gC (.int 2))) gNil)))) gNil))) (gCons (gApp mkTup (gCons (gC (.str "union")) gNil)) gNil))) (gBin modD (gVar 4) (gC (.int 2)))))))))))))))))
def f__law_operator : List D → Option D := runV 8 g__law_operator
abbrev s_column_index : Stmt := topS 8
abbrev N_column_index : List Str := ["fields", "name", "index", "field"]
theorem sc_column_index : FnScope N_column_index ["fields", "name"] (defScope s_column_index) := ⟨rfl, rfl, rfl, by decide +kernel, rfl, by decide +kernel, by decide +kernel⟩
def g_column_index : Sd := (sSeq (sFor (gEnum (gCons (gVar 0) gNil)) (gTTup 2 (gTCons (gTN 2) (gTCons (gTN 3) gTNil)))
  (sIf (gTst (gBin eqD (gBin ixD (gVar 3) (gC (.int 0))) (gVar 1))) (sRet (gVar 2)) sNext))
  (sRet (gC .none)))
def f_column_index : List D → Option D := runV 4 g_column_index
abbrev s_type_in : Stmt := topS 18
abbrev N_type_in : List Str := ["fields", "name", "index"]
theorem sc_type_in : FnScope N_type_in ["fields", "name"] (defScope s_type_in) := ⟨rfl, rfl, rfl, by decide +kernel, rfl, by decide +kernel, by decide +kernel⟩
def g_type_in : Sx := (xSeq (xOk (sSet 2 (gApp f_column_index (gCons (gVar 0) (gCons (gVar 1) gNil)))))
  (xSeq (xIf (xOk (gTst (gBin isD (gVar 2) (gC .none)))) (xRaise "InvalidOperator" (gBin addD (gC (.str "there is no column ")) (gVar 1))) (xOk sNext))
  (xOk (sRet (gBin ixD (gBin ixD (gVar 0) (gVar 2)) (gC (.int 1)))))))
def f_type_in : List D → Option (D ⊕ Xc) := runX 3 g_type_in
abbrev s_check_columns : Stmt := topS 21
abbrev N_check_columns : List Str := ["operator", "fields", "word", "name", "way", "first", "second", "aggregate", "column"]
theorem sc_check_columns : FnScope N_check_columns ["operator", "fields"] (defScope s_check_columns) := ⟨rfl, rfl, rfl, by decide +kernel, rfl, by decide +kernel, by decide +kernel⟩
def g_check_columns : Sx := (xSeq (xOk (sSet 2 (gBin ixD (gVar 0) (gC (.int 0)))))
  (xSeq (xIf (xOk (gTst (gBin inD (gVar 2) (gApp mkTup (gCons (gC (.str "group")) (gCons (gC (.str "top")) (gCons (gC (.str "window")) (gCons (gC (.str "first")) gNil)))))))) (xFor (gSeq (gBin ixD (gVar 0) (gC (.int 1)))) (gTN 3)
  (xDrop (xCall f_type_in (xOk (gCons (gBin ixD (gVar 1) (gC (.int 0))) (gCons (gVar 3) gNil)))))) (xOk sNext))
  (xSeq (xIf (xOk (gTst (gBin eqD (gVar 2) (gC (.str "top"))))) (xFor (gSeq (gBin ixD (gVar 0) (gC (.int 2)))) (gTTup 2 (gTCons (gTN 3) (gTCons (gTN 4) gTNil)))
  (xDrop (xCall f_type_in (xOk (gCons (gBin ixD (gVar 1) (gC (.int 0))) (gCons (gVar 3) gNil)))))) (xOk sNext))
  (xSeq (xIf (xOk (gTst (gBin inD (gVar 2) (gApp mkTup (gCons (gC (.str "near")) (gCons (gC (.str "asof")) (gCons (gC (.str "join")) gNil))))))) (xFor (gSeq (gBin ixD (gVar 0) (gC (.int 1)))) (gTTup 2 (gTCons (gTN 5) (gTCons (gTN 6) gTNil)))
  (xSeq (xDrop (xCall f_type_in (xOk (gCons (gBin ixD (gVar 1) (gC (.int 0))) (gCons (gVar 5) gNil)))))
  (xDrop (xCall f_type_in (xOk (gCons (gBin ixD (gVar 1) (gC (.int 1))) (gCons (gVar 6) gNil))))))) (xOk sNext))
  (xIf (xOk (gTst (gBin inD (gVar 2) (gApp mkTup (gCons (gC (.str "group")) (gCons (gC (.str "window")) gNil)))))) (xFor (gSeq (gBin ixD (gVar 0) (gUn negD (gC (.int 1))))) (gTTup 3 (gTCons (gTN 3) (gTCons (gTN 7) (gTCons (gTN 8) gTNil))))
  (xIf (xOk (gTst (gBin isntD (gVar 8) (gC .none)))) (xDrop (xCall f_type_in (xOk (gCons (gBin ixD (gVar 1) (gC (.int 0))) (gCons (gVar 8) gNil))))) (xOk sNext))) (xOk sNext))))))
def f_check_columns : List D → Option (D ⊕ Xc) := runX 9 g_check_columns
abbrev s_check_kinds : Stmt := topS 26
abbrev N_check_kinds : List Str := ["operator", "kinds", "word", "wanted", "kind"]
theorem sc_check_kinds : FnScope N_check_kinds ["operator", "kinds"] (defScope s_check_kinds) := ⟨rfl, rfl, rfl, by decide +kernel, rfl, by decide +kernel, by decide +kernel⟩
def g_check_kinds : Sx := (xSeq (xOk (sSet 2 (gBin ixD (gVar 0) (gC (.int 0)))))
  (xSeq (xOk (sSet 3 (gApp mkLst gNil)))
  (xSeq (xOk (sIf (gTst (gBin inD (gVar 2) (gApp mkTup (gCons (gC (.str "window")) (gCons (gC (.str "first")) (gCons (gC (.str "asof")) gNil)))))) (sSet 3 (gSl (gVar 1) gNoP (gPart (gC (.int 1))))) sNext))
  (xSeq (xOk (sIf (gTst (gBin eqD (gVar 2) (gC (.str "near")))) (sSet 3 (gVar 1)) sNext))
  (xFor (gSeq (gVar 3)) (gTN 4)
  (xIf (xOk (gTst (gBin neD (gVar 4) (gC (.str "events"))))) (xRaise "InvalidOperator" (gC (.str "events are wanted"))) (xOk sNext)))))))
def f_check_kinds : List D → Option (D ⊕ Xc) := runX 5 g_check_kinds
abbrev s_agree : Stmt := topS 10
abbrev N_agree : List Str := ["first", "second"]
theorem sc_agree : FnScope N_agree ["first", "second"] (defScope s_agree) := ⟨rfl, rfl, rfl, by decide +kernel, rfl, by decide +kernel, by decide +kernel⟩
def g_agree : Sd := (sRet (gOrV (gBin isD (gVar 0) (gC .none)) (gOrV (gBin isD (gVar 1) (gC .none)) (gBin eqD (gVar 0) (gVar 1)))))
def f_agree : List D → Option D := runV 2 g_agree
abbrev s_differ : Stmt := topS 19
abbrev N_differ : List Str := []
theorem sc_differ : FnScope N_differ [] (defScope s_differ) := ⟨rfl, rfl, rfl, by decide +kernel, rfl, by decide +kernel, by decide +kernel⟩
def g_differ : Sx := (xRaise "InvalidOperator" (gC (.str "types differ")))
def f_differ : List D → Option (D ⊕ Xc) := runX 0 g_differ
abbrev s_check_pairs : Stmt := topS 22
abbrev N_check_pairs : List Str := ["pairs", "fields", "first", "second"]
theorem sc_check_pairs : FnScope N_check_pairs ["pairs", "fields"] (defScope s_check_pairs) := ⟨rfl, rfl, rfl, by decide +kernel, rfl, by decide +kernel, by decide +kernel⟩
def g_check_pairs : Sx := (xFor (gSeq (gVar 0)) (gTTup 2 (gTCons (gTN 2) (gTCons (gTN 3) gTNil)))
  (xIf (xTst (xBin neD (xCall f_type_in (xOk (gCons (gBin ixD (gVar 1) (gC (.int 0))) (gCons (gVar 2) gNil)))) (xCall f_type_in (xOk (gCons (gBin ixD (gVar 1) (gC (.int 1))) (gCons (gVar 3) gNil)))))) (xDrop (xCall f_differ (xOk gNil))) (xOk sNext)))
def f_check_pairs : List D → Option (D ⊕ Xc) := runX 4 g_check_pairs
abbrev s_parts_of : Stmt := topS 5
abbrev N_parts_of : List Str := ["expression"]
theorem sc_parts_of : FnScope N_parts_of ["expression"] (defScope s_parts_of) := ⟨rfl, rfl, rfl, by decide +kernel, rfl, by decide +kernel, by decide +kernel⟩
def g_parts_of : Sd := (sSeq (sIf (gOr (gTst (gBin eqD (gBin ixD (gVar 0) (gC (.int 0))) (gC (.str "column")))) (gTst (gBin eqD (gBin ixD (gVar 0) (gC (.int 0))) (gC (.str "value"))))) (sRet (gApp mkLst gNil)) sNext)
  (sSeq (sIf (gTst (gBin eqD (gBin ixD (gVar 0) (gC (.int 0))) (gC (.str "binary")))) (sRet (gApp mkLst (gCons (gBin ixD (gVar 0) (gC (.int 2))) (gCons (gBin ixD (gVar 0) (gC (.int 3))) gNil)))) sNext)
  (sRet (gApp lstF (gCons (gSl (gVar 0) (gPart (gC (.int 1))) gNoP) gNil)))))
def f_parts_of : List D → Option D := runV 1 g_parts_of
abbrev s_want : Stmt := topS 11
abbrev N_want : List Str := ["types", "wanted", "found"]
theorem sc_want : FnScope N_want ["types", "wanted"] (defScope s_want) := ⟨rfl, rfl, rfl, by decide +kernel, rfl, by decide +kernel, by decide +kernel⟩
def g_want : Sx := (xFor (gSeq (gVar 0)) (gTN 2)
  (xIf (xOk (gNot (gTru (gApp f_agree (gCons (gVar 2) (gCons (gVar 1) gNil)))))) (xRaise "InvalidOperator" (gC (.str "types differ"))) (xOk sNext)))
def f_want : List D → Option (D ⊕ Xc) := runX 3 g_want
abbrev s_type_of_binary : Stmt := topS 12
abbrev N_type_of_binary : List Str := ["sign", "types"]
theorem sc_type_of_binary : FnScope N_type_of_binary ["sign", "types"] (defScope s_type_of_binary) := ⟨rfl, rfl, rfl, by decide +kernel, rfl, by decide +kernel, by decide +kernel⟩
def g_type_of_binary : Sx := (xSeq (xIf (xOk (gTst (gBin inD (gVar 0) (gApp mkTup (gCons (gC (.str "+")) (gCons (gC (.str "-")) (gCons (gC (.str "*")) (gCons (gC (.str "/")) gNil)))))))) (xSeq (xDrop (xCall f_want (xOk (gCons (gVar 1) (gCons (gC (.str "whole")) gNil)))))
  (xOk (sRet (gC (.str "whole"))))) (xOk sNext))
  (xSeq (xIf (xOk (gTst (gBin inD (gVar 0) (gApp mkTup (gCons (gC (.str "and")) (gCons (gC (.str "or")) gNil)))))) (xSeq (xDrop (xCall f_want (xOk (gCons (gVar 1) (gCons (gC (.str "flag")) gNil)))))
  (xOk (sRet (gC (.str "flag"))))) (xOk sNext))
  (xSeq (xDrop (xCall f_want (xOk (gCons (gSl (gVar 1) gNoP (gPart (gC (.int 1)))) (gCons (gBin ixD (gVar 1) (gC (.int 1))) gNil)))))
  (xOk (sRet (gC (.str "flag")))))))
def f_type_of_binary : List D → Option (D ⊕ Xc) := runX 2 g_type_of_binary
abbrev s_type_of_value : Stmt := topS 7
abbrev N_type_of_value : List Str := ["value"]
theorem sc_type_of_value : FnScope N_type_of_value ["value"] (defScope s_type_of_value) := ⟨rfl, rfl, rfl, by decide +kernel, rfl, by decide +kernel, by decide +kernel⟩
def g_type_of_value : Sd := (sSeq (sIf (gTst (gBin isD (gVar 0) (gC .none))) (sRet (gC .none)) sNext)
  (sSeq (sIf (gTru (gApp (isiF "bool") (gCons (gVar 0) gNil))) (sRet (gC (.str "flag"))) sNext)
  (sSeq (sIf (gTru (gApp (isiF "int") (gCons (gVar 0) gNil))) (sRet (gC (.str "whole"))) sNext)
  (sRet (gC (.str "text"))))))
def f_type_of_value : List D → Option D := runV 1 g_type_of_value
abbrev s_type_of : Stmt := topS 13
abbrev N_type_of : List Str := ["expression", "fields", "word", "index", "types", "part"]
theorem sc_type_of : FnScope N_type_of ["expression", "fields"] (defScope s_type_of) := ⟨rfl, rfl, rfl, by decide +kernel, rfl, by decide +kernel, by decide +kernel⟩
def g_type_of (r_type_of : List D → Option (D ⊕ Xc)) : Sx := (xSeq (xOk (sSet 2 (gBin ixD (gVar 0) (gC (.int 0)))))
  (xSeq (xIf (xOk (gTst (gBin eqD (gVar 2) (gC (.str "column"))))) (xSeq (xOk (sSet 3 (gApp f_column_index (gCons (gVar 1) (gCons (gBin ixD (gVar 0) (gC (.int 1))) gNil)))))
  (xSeq (xIf (xOk (gTst (gBin isD (gVar 3) (gC .none)))) (xRaise "InvalidOperator" (gBin addD (gC (.str "there is no column ")) (gBin ixD (gVar 0) (gC (.int 1))))) (xOk sNext))
  (xOk (sRet (gBin ixD (gBin ixD (gVar 1) (gVar 3)) (gC (.int 1))))))) (xOk sNext))
  (xSeq (xOk (sIf (gTst (gBin eqD (gVar 2) (gC (.str "value")))) (sRet (gApp f_type_of_value (gCons (gBin ixD (gVar 0) (gC (.int 1))) gNil))) sNext))
  (xSeq (xOwn 4 (xLc [5] (gSeq (gApp f_parts_of (gCons (gVar 0) gNil))) (gTN 5) gTrue (xCall r_type_of (xOk (gCons (gVar 5) (gCons (gVar 1) gNil))))))
  (xSeq (xIf (xOk (gTst (gBin eqD (gVar 2) (gC (.str "binary"))))) (xRet (xCall f_type_of_binary (xOk (gCons (gBin ixD (gVar 0) (gC (.int 1))) (gCons (gFrz 4) gNil))))) (xOk sNext))
  (xSeq (xIf (xOk (gTst (gBin eqD (gVar 2) (gC (.str "pick"))))) (xSeq (xDrop (xCall f_want (xOk (gCons (gSl (gFrz 4) gNoP (gPart (gC (.int 1)))) (gCons (gC (.str "flag")) gNil)))))
  (xSeq (xDrop (xCall f_want (xOk (gCons (gSl (gFrz 4) (gPart (gC (.int 1))) (gPart (gC (.int 2)))) (gCons (gIxB 4 (gC (.int 2))) gNil)))))
  (xOk (sRet (gIfE (gTst (gBin isD (gIxB 4 (gC (.int 1))) (gC .none))) (gIxB 4 (gC (.int 2))) (gIxB 4 (gC (.int 1)))))))) (xOk sNext))
  (xSeq (xIf (xOk (gTst (gBin eqD (gVar 2) (gC (.str "not"))))) (xSeq (xDrop (xCall f_want (xOk (gCons (gFrz 4) (gCons (gC (.str "flag")) gNil)))))
  (xOk (sRet (gC (.str "flag"))))) (xOk sNext))
  (xSeq (xIf (xOk (gTst (gBin eqD (gVar 2) (gC (.str "length"))))) (xSeq (xDrop (xCall f_want (xOk (gCons (gFrz 4) (gCons (gC (.str "text")) gNil)))))
  (xOk (sRet (gC (.str "whole"))))) (xOk sNext))
  (xOk (sRet (gC (.str "flag"))))))))))))
def fuel_type_of : Nat → (List D → Option (D ⊕ Xc))
  | 0 => (runX 6 xFail)
  | n + 1 => (runX 6 (g_type_of (fuel_type_of n)))
def f_type_of : List D → Option (D ⊕ Xc) := (fuel_type_of 6)
abbrev s_mapped : Stmt := topS 23
abbrev N_mapped : List Str := ["to", "fields", "found", "name", "expression", "kind"]
theorem sc_mapped : FnScope N_mapped ["to", "fields"] (defScope s_mapped) := ⟨rfl, rfl, rfl, by decide +kernel, rfl, by decide +kernel, by decide +kernel⟩
def g_mapped : Sx := (xSeq (xOk (sOwn 2 (gApp mkLst gNil)))
  (xSeq (xFor (gSeq (gVar 0)) (gTTup 2 (gTCons (gTN 3) (gTCons (gTN 4) gTNil)))
  (xSeq (xSet 5 (xCall f_type_of (xOk (gCons (gVar 4) (gCons (gVar 1) gNil)))))
  (xOk (sApp 2 (gApp mkTup (gCons (gVar 3) (gCons (gIfE (gTst (gBin isD (gVar 5) (gC .none))) (gC (.str "flag")) (gVar 5)) gNil)))))))
  (xOk (sRet (gFrz 2)))))
def f_mapped : List D → Option (D ⊕ Xc) := runX 6 g_mapped
abbrev s_aggregate_type : Stmt := topS 20
abbrev N_aggregate_type : List Str := ["word", "column", "fields", "found"]
theorem sc_aggregate_type : FnScope N_aggregate_type ["word", "column", "fields"] (defScope s_aggregate_type) := ⟨rfl, rfl, rfl, by decide +kernel, rfl, by decide +kernel, by decide +kernel⟩
def g_aggregate_type : Sx := (xSeq (xOk (sIf (gTst (gBin eqD (gVar 0) (gC (.str "count")))) (sRet (gC (.str "whole"))) sNext))
  (xSeq (xSet 3 (xCall f_type_in (xOk (gCons (gVar 2) (gCons (gVar 1) gNil)))))
  (xSeq (xIf (xOk (gAnd (gTst (gBin inD (gVar 0) (gApp mkTup (gCons (gC (.str "sum")) (gCons (gC (.str "mean")) gNil))))) (gTst (gBin neD (gVar 3) (gC (.str "whole")))))) (xDrop (xCall f_differ (xOk gNil))) (xOk sNext))
  (xOk (sRet (gVar 3))))))
def f_aggregate_type : List D → Option (D ⊕ Xc) := runX 4 g_aggregate_type
abbrev s_with_aggregates : Stmt := topS 24
abbrev N_with_aggregates : List Str := ["operator", "fields", "found", "name", "word", "column"]
theorem sc_with_aggregates : FnScope N_with_aggregates ["operator", "fields"] (defScope s_with_aggregates) := ⟨rfl, rfl, rfl, by decide +kernel, rfl, by decide +kernel, by decide +kernel⟩
def g_with_aggregates : Sx := (xSeq (xOwn 2 (xLc [3] (gSeq (gBin ixD (gVar 0) (gC (.int 1)))) (gTN 3) gTrue (xApp mkTup (xCons (xOk (gVar 3)) (xCons (xCall f_type_in (xOk (gCons (gVar 1) (gCons (gVar 3) gNil)))) (xOk gNil))))))
  (xSeq (xOk (sIf (gTst (gBin eqD (gBin ixD (gVar 0) (gC (.int 0))) (gC (.str "window")))) (sSeq (sApp 2 (gApp mkTup (gCons (gC (.str "start")) (gCons (gC (.str "whole")) gNil))))
  (sApp 2 (gApp mkTup (gCons (gC (.str "end")) (gCons (gC (.str "whole")) gNil))))) sNext))
  (xSeq (xFor (gSeq (gBin ixD (gVar 0) (gUn negD (gC (.int 1))))) (gTTup 3 (gTCons (gTN 3) (gTCons (gTN 4) (gTCons (gTN 5) gTNil))))
  (xApd 2 (xApp mkTup (xCons (xOk (gVar 3)) (xCons (xCall f_aggregate_type (xOk (gCons (gVar 4) (gCons (gVar 5) (gCons (gVar 1) gNil))))) (xOk gNil))))))
  (xOk (sRet (gFrz 2))))))
def f_with_aggregates : List D → Option (D ⊕ Xc) := runX 6 g_with_aggregates
abbrev s_output_fields : Stmt := topS 25
abbrev N_output_fields : List Str := ["operator", "fields", "word", "name", "kind"]
theorem sc_output_fields : FnScope N_output_fields ["operator", "fields"] (defScope s_output_fields) := ⟨rfl, rfl, rfl, by decide +kernel, rfl, by decide +kernel, by decide +kernel⟩
def g_output_fields : Sx := (xSeq (xOk (sSet 2 (gBin ixD (gVar 0) (gC (.int 0)))))
  (xSeq (xIf (xOk (gTst (gBin eqD (gVar 2) (gC (.str "filter"))))) (xSeq (xIf (xNot (xTst (xApp f_agree (xCons (xCall f_type_of (xOk (gCons (gBin ixD (gVar 0) (gC (.int 1))) (gCons (gBin ixD (gVar 1) (gC (.int 0))) gNil)))) (xCons (xOk (gC (.str "flag"))) (xOk gNil)))))) (xDrop (xCall f_differ (xOk gNil))) (xOk sNext))
  (xOk (sRet (gApp lstF (gCons (gBin ixD (gVar 1) (gC (.int 0))) gNil))))) (xOk sNext))
  (xSeq (xIf (xOk (gTst (gBin eqD (gVar 2) (gC (.str "map"))))) (xRet (xCall f_mapped (xOk (gCons (gBin ixD (gVar 0) (gC (.int 1))) (gCons (gBin ixD (gVar 1) (gC (.int 0))) gNil))))) (xOk sNext))
  (xSeq (xIf (xOk (gTst (gBin eqD (gVar 2) (gC (.str "union"))))) (xSeq (xIf (xOk (gTst (gBin neD (gLc [3, 4] (gSeq (gBin ixD (gVar 1) (gC (.int 0)))) (gTTup 2 (gTCons (gTN 3) (gTCons (gTN 4) gTNil))) gTrue (gVar 4)) (gLc [3, 4] (gSeq (gBin ixD (gVar 1) (gC (.int 1)))) (gTTup 2 (gTCons (gTN 3) (gTCons (gTN 4) gTNil))) gTrue (gVar 4))))) (xDrop (xCall f_differ (xOk gNil))) (xOk sNext))
  (xOk (sRet (gApp lstF (gCons (gBin ixD (gVar 1) (gC (.int 0))) gNil))))) (xOk sNext))
  (xSeq (xIf (xOk (gTst (gBin inD (gVar 2) (gApp mkTup (gCons (gC (.str "group")) (gCons (gC (.str "window")) gNil)))))) (xRet (xCall f_with_aggregates (xOk (gCons (gVar 0) (gCons (gBin ixD (gVar 1) (gC (.int 0))) gNil))))) (xOk sNext))
  (xSeq (xIf (xOk (gTst (gBin inD (gVar 2) (gApp mkTup (gCons (gC (.str "near")) (gCons (gC (.str "asof")) (gCons (gC (.str "join")) gNil))))))) (xSeq (xDrop (xCall f_check_pairs (xOk (gCons (gBin ixD (gVar 0) (gC (.int 1))) (gCons (gVar 1) gNil)))))
  (xOk (sRet (gBin addD (gApp lstF (gCons (gBin ixD (gVar 1) (gC (.int 0))) gNil)) (gApp lstF (gCons (gBin ixD (gVar 1) (gC (.int 1))) gNil)))))) (xOk sNext))
  (xOk (sRet (gApp lstF (gCons (gBin ixD (gVar 1) (gC (.int 0))) gNil))))))))))
def f_output_fields : List D → Option (D ⊕ Xc) := runX 5 g_output_fields
abbrev s_output_kind : Stmt := topS 27
abbrev N_output_kind : List Str := ["operator", "kinds", "word"]
theorem sc_output_kind : FnScope N_output_kind ["operator", "kinds"] (defScope s_output_kind) := ⟨rfl, rfl, rfl, by decide +kernel, rfl, by decide +kernel, by decide +kernel⟩
def g_output_kind : Sd := (sSeq (sSet 2 (gBin ixD (gVar 0) (gC (.int 0))))
  (sSeq (sIf (gTst (gBin inD (gVar 2) (gApp mkTup (gCons (gC (.str "filter")) (gCons (gC (.str "map")) gNil))))) (sRet (gBin ixD (gVar 1) (gC (.int 0)))) sNext)
  (sSeq (sIf (gTst (gBin eqD (gVar 2) (gC (.str "union")))) (sRet (gIfE (gTst (gBin eqD (gVar 1) (gApp mkLst (gCons (gC (.str "events")) (gCons (gC (.str "events")) gNil))))) (gC (.str "events")) (gC (.str "table")))) sNext)
  (sSeq (sIf (gTst (gBin inD (gVar 2) (gApp mkTup (gCons (gC (.str "window")) (gCons (gC (.str "near")) (gCons (gC (.str "asof")) (gCons (gC (.str "first")) gNil))))))) (sRet (gC (.str "events"))) sNext)
  (sRet (gC (.str "table")))))))
def f_output_kind : List D → Option D := runV 3 g_output_kind
abbrev s_check_operator : Stmt := topS 28
abbrev N_check_operator : List Str := ["operator", "inputs", "fields", "kinds", "found", "names", "name", "kind", "side"]
theorem sc_check_operator : FnScope N_check_operator ["operator", "inputs"] (defScope s_check_operator) := ⟨rfl, rfl, rfl, by decide +kernel, rfl, by decide +kernel, by decide +kernel⟩
def g_check_operator : Sx := (xSeq (xOk (sOwn 2 (gLc [8] (gSeq (gVar 1)) (gTN 8) gTrue (gBin ixD (gVar 8) (gC (.int 0))))))
  (xSeq (xOk (sOwn 3 (gLc [8] (gSeq (gVar 1)) (gTN 8) gTrue (gBin ixD (gVar 8) (gC (.int 1))))))
  (xSeq (xDrop (xCall f_check_columns (xOk (gCons (gVar 0) (gCons (gFrz 2) gNil)))))
  (xSeq (xSet 4 (xCall f_output_fields (xOk (gCons (gVar 0) (gCons (gFrz 2) gNil)))))
  (xSeq (xDrop (xCall f_check_kinds (xOk (gCons (gVar 0) (gCons (gFrz 3) gNil)))))
  (xSeq (xOk (sOwn 5 (gApp mkLst gNil)))
  (xSeq (xFor (gSeq (gVar 4)) (gTTup 2 (gTCons (gTN 6) (gTCons (gTN 7) gTNil)))
  (xSeq (xIf (xOk (gTst (gInB false 5 (gVar 6)))) (xRaise "InvalidOperator" (gBin addD (gVar 6) (gC (.str " is there twice")))) (xOk sNext))
  (xOk (sApp 5 (gVar 6)))))
  (xSeq (xIf (xOk (gTst (gBin gtD (gApp lenF (gCons (gVar 4) gNil)) (gC (.int 8))))) (xRaise "InvalidOperator" (gC (.str "too many columns"))) (xOk sNext))
  (xOk (sRet (gApp mkTup (gCons (gApp tupF (gCons (gVar 4) gNil)) (gCons (gApp f_output_kind (gCons (gVar 0) (gCons (gFrz 3) gNil))) gNil)))))))))))))
def f_check_operator : List D → Option (D ⊕ Xc) := runX 9 g_check_operator
abbrev s_sides_of : Stmt := topS 17
abbrev N_sides_of : List Str := ["operator"]
theorem sc_sides_of : FnScope N_sides_of ["operator"] (defScope s_sides_of) := ⟨rfl, rfl, rfl, by decide +kernel, rfl, by decide +kernel, by decide +kernel⟩
def g_sides_of : Sd := (sSeq (sIf (gTst (gBin inD (gBin ixD (gVar 0) (gC (.int 0))) (gC (.tuple ((["union", "near", "asof", "join"] : List Str).map PyData.str))))) (sRet (gC (.int 2))) sNext)
  (sRet (gC (.int 1))))
def f_sides_of : List D → Option D := runV 1 g_sides_of
abbrev s__law_drawn_plan : Stmt := topS 49
abbrev N__law_drawn_plan : List Str := ["rows", "at", "many", "nodes", "outputs", "j", "row", "one", "two", "operator", "inputs", "output", "number"]
theorem sc__law_drawn_plan : FnScope N__law_drawn_plan ["rows", "at", "many"] (defScope s__law_drawn_plan) := ⟨rfl, rfl, rfl, by decide +kernel, rfl, by decide +kernel, by decide +kernel⟩
def g__law_drawn_plan : Sd := (sSeq (sOwn 3 (gApp mkLst (gCons (gApp mkTup (gCons (gApp mkTup (gCons (gC (.str "source")) (gCons (gC (.str "s")) (gCons (gApp f__law_s_fields gNil) gNil)))) (gCons (gApp mkTup gNil) gNil))) (gCons (gApp mkTup (gCons (gApp mkTup (gCons (gC (.str "source")) (gCons (gC (.str "r")) (gCons (gApp f__law_r_fields gNil) gNil)))) (gCons (gApp mkTup gNil) gNil))) gNil))))
  (sSeq (sOwn 4 (gApp mkLst (gCons (gApp mkTup (gCons (gApp f__law_s_fields gNil) (gCons (gC (.str "events")) gNil))) (gCons (gApp mkTup (gCons (gApp f__law_r_fields gNil) (gCons (gC (.str "events")) gNil))) gNil))))
  (sSeq (sFor (gRng1 (gCons (gVar 2) gNil)) (gTN 5)
  (sSeq (sSet 6 (gBin ixD (gVar 0) (gBin modD (gApp intF (gCons (gBin addD (gVar 1) (gVar 5)) gNil)) (gApp lenF (gCons (gVar 0) gNil)))))
  (sSeq (sSet 7 (gBin subD (gBin subD (gPk 3 lenF) (gC (.int 1))) (gBin mulD (gBin modD (gApp intF (gCons (gBin fdivD (gVar 6) (gC (.int 5))) gNil)) (gC (.int 2))) (gBin modD (gApp intF (gCons (gBin fdivD (gVar 6) (gC (.int 10))) gNil)) (gPk 3 lenF)))))
  (sSeq (sSet 8 (gBin modD (gApp intF (gCons (gBin fdivD (gVar 6) (gC (.int 30))) gNil)) (gPk 3 lenF)))
  (sSeq (sSet 9 (gApp f__law_operator (gCons (gBin ixD (gIxB 4 (gVar 7)) (gC (.int 0))) (gCons (gBin ixD (gIxB 4 (gVar 8)) (gC (.int 0))) (gCons (gBin fdivD (gVar 6) (gC (.int 120))) gNil)))))
  (sSeq (sSet 10 (gIfE (gTst (gBin eqD (gApp f_sides_of (gCons (gVar 9) gNil)) (gC (.int 1)))) (gApp mkTup (gCons (gVar 7) gNil)) (gApp mkTup (gCons (gVar 7) (gCons (gVar 8) gNil)))))
  (sSeq (noX (xTry (hL [("InvalidOperator", true, fun m => ((sSet 11 (gC .none))))]) (xSet 11 (xCall f_check_operator (xOk (gCons (gVar 9) (gCons (gLc [12] (gSeq (gVar 10)) (gTN 12) gTrue (gIxB 4 (gVar 12))) gNil))))) (gL [("InvalidOperator", true, fun m => ((sSet 11 (gC .none))))])))
  (sIf (gTst (gBin isntD (gVar 11) (gC .none))) (sSeq (sApp 3 (gApp mkTup (gCons (gVar 9) (gCons (gVar 10) gNil))))
  (sApp 4 (gVar 11))) sNext))))))))
  (sRet (gApp tupF (gCons (gFrz 3) gNil))))))
def f__law_drawn_plan : List D → Option D := runV 13 g__law_drawn_plan
abbrev s__law_rows : Stmt := topS 38
abbrev N__law_rows : List Str := ["script", "count", "rows", "k", "cell"]
theorem sc__law_rows : FnScope N__law_rows ["script", "count"] (defScope s__law_rows) := ⟨rfl, rfl, rfl, by decide +kernel, rfl, by decide +kernel, by decide +kernel⟩
def g__law_rows : Sd := (sSeq (sOwn 2 (gApp mkLst gNil))
  (sSeq (sFor (gRng1 (gCons (gVar 1) gNil)) (gTN 3)
  (sSeq (sSet 4 (gC (.int 0)))
  (sSeq (sIf (gTst (gBin gtD (gApp lenF (gCons (gVar 0) gNil)) (gC (.int 0)))) (sSet 4 (gApp intF (gCons (gBin ixD (gVar 0) (gBin modD (gApp intF (gCons (gVar 3) gNil)) (gApp lenF (gCons (gVar 0) gNil)))) gNil))) sNext)
  (sSeq (sIf (gTst (gBin ltD (gVar 4) (gC (.int 0)))) (sSet 4 (gBin subD (gC (.int 1)) (gBin mulL (gC (.int 2)) (gVar 4)))) sNext)
  (sSeq (sIf (gOr (gTst (gBin geD (gVar 3) (gApp lenF (gCons (gVar 0) gNil)))) (gTst (gBin ltD (gVar 4) (gC (.int 1000000000))))) (sSeq (sSet 4 (gBin modD (gApp intF (gCons (gBin addD (gBin mulS (gBin addD (gBin addD (gVar 4) (gBin mulL (gC (.int 131)) (gVar 3))) (gC (.int 7))) (gC (.int 48271))) (gBin mulS (gBin mulD (gVar 3) (gVar 3)) (gC (.int 69621)))) gNil)) (gC (.int 1000000007))))
  (sSet 4 (gBin modD (gApp intF (gCons (gBin mulS (gBin addD (gBin addD (gVar 4) (gBin mulL (gC (.int 17)) (gVar 3))) (gC (.int 3))) (gC (.int 2862933555777941757))) gNil)) (gC (.int 18446744073709551557))))) sNext)
  (sApp 2 (gVar 4)))))))
  (sRet (gFrz 2))))
def f__law_rows : List D → Option D := runV 5 g__law_rows
abbrev s_check_inputs : Stmt := topS 32
abbrev N_check_inputs : List Str := ["plan", "number", "operator", "inputs", "sides", "right", "other"]
theorem sc_check_inputs : FnScope N_check_inputs ["plan", "number"] (defScope s_check_inputs) := ⟨rfl, rfl, rfl, by decide +kernel, rfl, by decide +kernel, by decide +kernel⟩
def g_check_inputs : Sx := (xSeq (xOk (sAsg (gBin ixD (gVar 0) (gVar 1)) (gTTup 2 (gTCons (gTN 2) (gTCons (gTN 3) gTNil)))))
  (xSeq (xOk (sSet 4 (gIfE (gTst (gBin eqD (gBin ixD (gVar 2) (gC (.int 0))) (gC (.str "source")))) (gC (.int 0)) (gApp f_sides_of (gCons (gVar 2) gNil)))))
  (xSeq (xOk (sOwn 5 (gLc [6] (gSeq (gVar 3)) (gTN 6) (gTst (gChain leD ltD (gC (.int 0)) (gVar 6) (gVar 1))) (gVar 6))))
  (xIf (xOk (gOr (gTst (gBin neD (gApp lenF (gCons (gVar 3) gNil)) (gVar 4))) (gTst (gBin neD (gPk 5 lenF) (gVar 4))))) (xRaise "InvalidPlan" (gJs [(gC (.str "node ")), (gFmt (gVar 1)), (gC (.str ": inputs"))] Str.empty)) (xOk sNext)))))
def f_check_inputs : List D → Option (D ⊕ Xc) := runX 7 g_check_inputs
abbrev s_output_of : Stmt := topS 33
abbrev N_output_of : List Str := ["plan", "number", "outputs", "operator", "inputs", "other", "earlier", "error"]
theorem sc_output_of : FnScope N_output_of ["plan", "number", "outputs"] (defScope s_output_of) := ⟨rfl, rfl, rfl, by decide +kernel, rfl, by decide +kernel, by decide +kernel⟩
def g_output_of : Sx := (xSeq (xOk (sAsg (gBin ixD (gVar 0) (gVar 1)) (gTTup 2 (gTCons (gTN 3) (gTCons (gTN 4) gTNil)))))
  (xSeq (xIf (xOk (gTst (gBin eqD (gBin ixD (gVar 3) (gC (.int 0))) (gC (.str "source"))))) (xSeq (xFor (gRng1 (gCons (gVar 1) gNil)) (gTN 5)
  (xSeq (xOk (sSet 6 (gBin ixD (gBin ixD (gVar 0) (gVar 5)) (gC (.int 0)))))
  (xIf (xOk (gAnd (gTst (gBin eqD (gBin ixD (gVar 6) (gC (.int 0))) (gC (.str "source")))) (gAnd (gTst (gBin eqD (gBin ixD (gVar 6) (gC (.int 1))) (gBin ixD (gVar 3) (gC (.int 1))))) (gTst (gBin neD (gApp reprF (gCons (gBin ixD (gVar 6) (gC (.int 2))) gNil)) (gApp reprF (gCons (gBin ixD (gVar 3) (gC (.int 2))) gNil))))))) (xRaise "InvalidPlan" (gJs [(gC (.str "node ")), (gFmt (gVar 1)), (gC (.str ": other fields"))] Str.empty)) (xOk sNext))))
  (xOk (sRet (gApp mkTup (gCons (gBin ixD (gVar 3) (gC (.int 2))) (gCons (gC (.str "events")) gNil)))))) (xOk sNext))
  (xTryR 7 "InvalidPlan" (h1 "InvalidOperator") (xRet (xCall f_check_operator (xOk (gCons (gVar 3) (gCons (gLc [5] (gSeq (gVar 4)) (gTN 5) gTrue (gIxB 2 (gVar 5))) gNil))))) (fun xc => (fun m => (gJs [(gC (.str "node ")), (gFmt (gVar 1)), (gC (.str ": ")), (gFmt (gC (.str m)))] Str.empty)) xc.m))))
def f_output_of : List D → D → Option ((D ⊕ Xc) × D) := runXO 8 g_output_of
abbrev s_fields_of : Stmt := topS 34
abbrev N_fields_of : List Str := ["plan", "outputs", "number"]
theorem sc_fields_of : FnScope N_fields_of ["plan"] (defScope s_fields_of) := ⟨rfl, rfl, rfl, by decide +kernel, rfl, by decide +kernel, by decide +kernel⟩
def g_fields_of : Sx := (xSeq (xIf (xOk (gTst (gBin eqD (gApp lenF (gCons (gVar 0) gNil)) (gC (.int 0))))) (xRaise "InvalidPlan" (gC (.str "no nodes"))) (xOk sNext))
  (xSeq (xIf (xOk (gTst (gBin gtD (gApp lenF (gCons (gVar 0) gNil)) (gC (.int 16))))) (xRaise "InvalidPlan" (gC (.str "more than 16 nodes"))) (xOk sNext))
  (xSeq (xOk (sOwn 1 (gApp mkLst gNil)))
  (xSeq (xFor (gRng1 (gCons (gApp lenF (gCons (gVar 0) gNil)) gNil)) (gTN 2)
  (xSeq (xDrop (xCall f_check_inputs (xOk (gCons (gVar 0) (gCons (gVar 2) gNil)))))
  (xApd 1 (gCallXO 1 f_output_of (gVar 0) (gVar 2)))))
  (xOk (sRet (gFrz 1)))))))
def f_fields_of : List D → Option (D ⊕ Xc) := runX 3 g_fields_of
abbrev s_check_plan : Stmt := topS 35
abbrev N_check_plan : List Str := ["plan"]
theorem sc_check_plan : FnScope N_check_plan ["plan"] (defScope s_check_plan) := ⟨rfl, rfl, rfl, by decide +kernel, rfl, by decide +kernel, by decide +kernel⟩
def g_check_plan : Sx := (xDrop (xCall f_fields_of (xOk (gCons (gVar 0) gNil))))
def f_check_plan : List D → Option (D ⊕ Xc) := runX 1 g_check_plan
abbrev s__law_told : Stmt := topS 50
abbrev N__law_told : List Str := ["plan", "check", "error"]
theorem sc__law_told : FnScope N__law_told ["plan", "check"] (defScope s__law_told) := ⟨rfl, rfl, rfl, by decide +kernel, rfl, by decide +kernel, by decide +kernel⟩
def g__law_told : Sd := (noX (xTryA 2 (hL [("InvalidPlan", true, fun m => ((sRet (gApp mkTup (gCons (gC (.str "wrong")) (gCons (gC (.str m)) (gCons (gC (.bool true)) gNil)))))))]) (xSeq (xIf (xOk (gTru (gVar 1))) (xRet (xApp mkTup (xCons (xOk (gC (.str "fine"))) (xCons (xCall f_check_plan (xOk (gCons (gVar 0) gNil))) (xOk gNil))))) (xOk sNext))
  (xRet (xApp mkTup (xCons (xOk (gC (.str "fine"))) (xCons (xCall f_fields_of (xOk (gCons (gVar 0) gNil))) (xOk gNil)))))) (gL [("InvalidPlan", true, fun m => ((sRet (gApp mkTup (gCons (gC (.str "wrong")) (gCons (gC (.str m)) (gCons (gC (.bool true)) gNil)))))))])))
def f__law_told : List D → Option D := runV 3 g__law_told
abbrev s_is_source : Stmt := topS 31
abbrev N_is_source : List Str := ["node"]
theorem sc_is_source : FnScope N_is_source ["node"] (defScope s_is_source) := ⟨rfl, rfl, rfl, by decide +kernel, rfl, by decide +kernel, by decide +kernel⟩
def g_is_source : Sd := (sRet (gBin eqD (gBin ixD (gBin ixD (gVar 0) (gC (.int 0))) (gC (.int 0))) (gC (.str "source"))))
def f_is_source : List D → Option D := runV 1 g_is_source
abbrev s_sources_of : Stmt := topS 36
abbrev N_sources_of : List Str := ["plan", "names", "node"]
theorem sc_sources_of : FnScope N_sources_of ["plan"] (defScope s_sources_of) := ⟨rfl, rfl, rfl, by decide +kernel, rfl, by decide +kernel, by decide +kernel⟩
def g_sources_of : Sd := (sSeq (sOwn 1 (gApp mkLst gNil))
  (sSeq (sFor (gSeq (gVar 0)) (gTN 2)
  (sIf (gAnd (gTru (gApp f_is_source (gCons (gVar 2) gNil))) (gTst (gInB true 1 (gBin ixD (gBin ixD (gVar 2) (gC (.int 0))) (gC (.int 1)))))) (sApp 1 (gBin ixD (gBin ixD (gVar 2) (gC (.int 0))) (gC (.int 1)))) sNext))
  (sRet (gFrz 1))))
def f_sources_of : List D → Option D := runV 3 g_sources_of
abbrev s_law : Stmt := topS 52
abbrev N_law : List Str := ["script", "rows", "plan", "outputs", "operator", "inputs", "told", "k", "wrong", "message", "kept", "due", "number"]
theorem sc_law : FnScope N_law ["script"] (defScope s_law) := ⟨rfl, rfl, rfl, by decide +kernel, rfl, by decide +kernel, by decide +kernel⟩
def g_law : Sd := (sSeq (sSet 1 (gApp f__law_rows (gCons (gVar 0) (gCons (gC (.int 24)) gNil))))
  (sSeq (sSet 2 (gApp f__law_drawn_plan (gCons (gVar 1) (gCons (gC (.int 2)) (gCons (gBin modD (gApp intF (gCons (gBin ixD (gVar 1) (gC (.int 0))) gNil)) (gC (.int 8))) gNil)))))
  (sSeq (sOwn 3 (gApp mkLst gNil))
  (sSeq (sFor (gSeq (gVar 2)) (gTTup 2 (gTCons (gTN 4) (gTCons (gTN 5) gTNil)))
  (sIf (gTst (gBin eqD (gBin ixD (gVar 4) (gC (.int 0))) (gC (.str "source")))) (sApp 3 (gApp mkTup (gCons (gBin ixD (gVar 4) (gC (.int 2))) (gCons (gC (.str "events")) gNil)))) (sApp 3 (gApp (noR f_check_operator) (gCons (gVar 4) (gCons (gLc [12] (gSeq (gVar 5)) (gTN 12) gTrue (gIxB 3 (gVar 12))) gNil))))))
  (sSeq (sIf (gOr (gTst (gBin neD (gApp f__law_told (gCons (gVar 2) (gCons (gC (.bool true)) gNil))) (gApp mkTup (gCons (gC (.str "fine")) (gCons (gC .none) gNil))))) (gTst (gBin neD (gApp f_sources_of (gCons (gVar 2) gNil)) (gApp mkLst (gCons (gC (.str "s")) (gCons (gC (.str "r")) gNil)))))) (sRet (gC (.bool false))) sNext)
  (sSeq (sSet 6 (gApp (noR f_fields_of) (gCons (gVar 2) gNil)))
  (sSeq (sIf (gOr (gNot (gTru (gApp (isiF "list") (gCons (gVar 6) gNil)))) (gTst (gBin neD (gApp reprF (gCons (gVar 6) gNil)) (gApp reprF (gCons (gFrz 3) gNil))))) (sRet (gC (.bool false))) sNext)
  (sSeq (sFor (gRng2 (gCons (gC (.int 12)) (gCons (gC (.int 22)) gNil))) (gTN 7)
  (sSeq (sAsg (gApp f__law_broken (gCons (gVar 2) (gCons (gBin ixD (gVar 1) (gVar 7)) gNil))) (gTTup 2 (gTCons (gTN 8) (gTCons (gTN 9) gTNil))))
  (sSeq (sSet 10 (gApp reprF (gCons (gVar 8) gNil)))
  (sSeq (sSet 11 (gApp mkTup (gCons (gC (.str "wrong")) (gCons (gVar 9) (gCons (gC (.bool true)) gNil)))))
  (sIf (gOr (gTst (gBin neD (gApp f__law_told (gCons (gVar 8) (gCons (gC (.bool true)) gNil))) (gVar 11))) (gOr (gTst (gBin neD (gApp f__law_told (gCons (gVar 8) (gCons (gC (.bool false)) gNil))) (gVar 11))) (gTst (gBin neD (gApp reprF (gCons (gVar 8) gNil)) (gVar 10))))) (sRet (gC (.bool false))) sNext)))))
  (sRet (gC (.bool true)))))))))))
def f_law : List D → Option D := runV 13 g_law
set_option genInjectivity false in
set_option genSizeOf false in
structure Txt (P : Program) (K : PySem.W.Frag) (mg : Str → Option Value) where
  a__law_r_fields : Addr
  d__law_r_fields : FuncData
  F__law_r_fields : Fun K "_law_r_fields" "_law_r_fields" s__law_r_fields a__law_r_fields d__law_r_fields
  m__law_r_fields : mg "_law_r_fields" = some (.ref a__law_r_fields)
  a__law_s_fields : Addr
  d__law_s_fields : FuncData
  F__law_s_fields : Fun K "_law_s_fields" "_law_s_fields" s__law_s_fields a__law_s_fields d__law_s_fields
  m__law_s_fields : mg "_law_s_fields" = some (.ref a__law_s_fields)
  a__law_broken : Addr
  d__law_broken : FuncData
  F__law_broken : Fun K "_law_broken" "_law_broken" s__law_broken a__law_broken d__law_broken
  m__law_broken : mg "_law_broken" = some (.ref a__law_broken)
  a__law_columns : Addr
  d__law_columns : FuncData
  F__law_columns : Fun K "_law_columns" "_law_columns" s__law_columns a__law_columns d__law_columns
  m__law_columns : mg "_law_columns" = some (.ref a__law_columns)
  a__law_pick : Addr
  d__law_pick : FuncData
  F__law_pick : Fun K "_law_pick" "_law_pick" s__law_pick a__law_pick d__law_pick
  m__law_pick : mg "_law_pick" = some (.ref a__law_pick)
  a__law_aggs : Addr
  d__law_aggs : FuncData
  F__law_aggs : Fun K "_law_aggs" "_law_aggs" s__law_aggs a__law_aggs d__law_aggs
  m__law_aggs : mg "_law_aggs" = some (.ref a__law_aggs)
  a__law_keys : Addr
  d__law_keys : FuncData
  F__law_keys : Fun K "_law_keys" "_law_keys" s__law_keys a__law_keys d__law_keys
  m__law_keys : mg "_law_keys" = some (.ref a__law_keys)
  a__law_map : Addr
  d__law_map : FuncData
  F__law_map : Fun K "_law_map" "_law_map" s__law_map a__law_map d__law_map
  m__law_map : mg "_law_map" = some (.ref a__law_map)
  a__law_on : Addr
  d__law_on : FuncData
  F__law_on : Fun K "_law_on" "_law_on" s__law_on a__law_on d__law_on
  m__law_on : mg "_law_on" = some (.ref a__law_on)
  a__law_where : Addr
  d__law_where : FuncData
  F__law_where : Fun K "_law_where" "_law_where" s__law_where a__law_where d__law_where
  m__law_where : mg "_law_where" = some (.ref a__law_where)
  a__law_operator : Addr
  d__law_operator : FuncData
  F__law_operator : Fun K "_law_operator" "_law_operator" s__law_operator a__law_operator d__law_operator
  m__law_operator : mg "_law_operator" = some (.ref a__law_operator)
  a_column_index : Addr
  d_column_index : FuncData
  F_column_index : Fun K "column_index" "column_index" s_column_index a_column_index d_column_index
  m_column_index : mg "column_index" = some (.ref a_column_index)
  a_type_in : Addr
  d_type_in : FuncData
  F_type_in : Fun K "type_in" "type_in" s_type_in a_type_in d_type_in
  m_type_in : mg "type_in" = some (.ref a_type_in)
  a_check_columns : Addr
  d_check_columns : FuncData
  F_check_columns : Fun K "check_columns" "check_columns" s_check_columns a_check_columns d_check_columns
  m_check_columns : mg "check_columns" = some (.ref a_check_columns)
  a_check_kinds : Addr
  d_check_kinds : FuncData
  F_check_kinds : Fun K "check_kinds" "check_kinds" s_check_kinds a_check_kinds d_check_kinds
  m_check_kinds : mg "check_kinds" = some (.ref a_check_kinds)
  a_agree : Addr
  d_agree : FuncData
  F_agree : Fun K "agree" "agree" s_agree a_agree d_agree
  m_agree : mg "agree" = some (.ref a_agree)
  a_differ : Addr
  d_differ : FuncData
  F_differ : Fun K "differ" "differ" s_differ a_differ d_differ
  m_differ : mg "differ" = some (.ref a_differ)
  a_check_pairs : Addr
  d_check_pairs : FuncData
  F_check_pairs : Fun K "check_pairs" "check_pairs" s_check_pairs a_check_pairs d_check_pairs
  m_check_pairs : mg "check_pairs" = some (.ref a_check_pairs)
  a_parts_of : Addr
  d_parts_of : FuncData
  F_parts_of : Fun K "parts_of" "parts_of" s_parts_of a_parts_of d_parts_of
  m_parts_of : mg "parts_of" = some (.ref a_parts_of)
  a_want : Addr
  d_want : FuncData
  F_want : Fun K "want" "want" s_want a_want d_want
  m_want : mg "want" = some (.ref a_want)
  a_type_of_binary : Addr
  d_type_of_binary : FuncData
  F_type_of_binary : Fun K "type_of_binary" "type_of_binary" s_type_of_binary a_type_of_binary d_type_of_binary
  m_type_of_binary : mg "type_of_binary" = some (.ref a_type_of_binary)
  a_type_of_value : Addr
  d_type_of_value : FuncData
  F_type_of_value : Fun K "type_of_value" "type_of_value" s_type_of_value a_type_of_value d_type_of_value
  m_type_of_value : mg "type_of_value" = some (.ref a_type_of_value)
  a_type_of : Addr
  d_type_of : FuncData
  F_type_of : Fun K "type_of" "type_of" s_type_of a_type_of d_type_of
  m_type_of : mg "type_of" = some (.ref a_type_of)
  a_mapped : Addr
  d_mapped : FuncData
  F_mapped : Fun K "mapped" "mapped" s_mapped a_mapped d_mapped
  m_mapped : mg "mapped" = some (.ref a_mapped)
  a_aggregate_type : Addr
  d_aggregate_type : FuncData
  F_aggregate_type : Fun K "aggregate_type" "aggregate_type" s_aggregate_type a_aggregate_type d_aggregate_type
  m_aggregate_type : mg "aggregate_type" = some (.ref a_aggregate_type)
  a_with_aggregates : Addr
  d_with_aggregates : FuncData
  F_with_aggregates : Fun K "with_aggregates" "with_aggregates" s_with_aggregates a_with_aggregates d_with_aggregates
  m_with_aggregates : mg "with_aggregates" = some (.ref a_with_aggregates)
  a_output_fields : Addr
  d_output_fields : FuncData
  F_output_fields : Fun K "output_fields" "output_fields" s_output_fields a_output_fields d_output_fields
  m_output_fields : mg "output_fields" = some (.ref a_output_fields)
  a_output_kind : Addr
  d_output_kind : FuncData
  F_output_kind : Fun K "output_kind" "output_kind" s_output_kind a_output_kind d_output_kind
  m_output_kind : mg "output_kind" = some (.ref a_output_kind)
  a_check_operator : Addr
  d_check_operator : FuncData
  F_check_operator : Fun K "check_operator" "check_operator" s_check_operator a_check_operator d_check_operator
  m_check_operator : mg "check_operator" = some (.ref a_check_operator)
  a_sides_of : Addr
  d_sides_of : FuncData
  F_sides_of : Fun K "sides_of" "sides_of" s_sides_of a_sides_of d_sides_of
  m_sides_of : mg "sides_of" = some (.ref a_sides_of)
  a__law_drawn_plan : Addr
  d__law_drawn_plan : FuncData
  F__law_drawn_plan : Fun K "_law_drawn_plan" "_law_drawn_plan" s__law_drawn_plan a__law_drawn_plan d__law_drawn_plan
  m__law_drawn_plan : mg "_law_drawn_plan" = some (.ref a__law_drawn_plan)
  a__law_rows : Addr
  d__law_rows : FuncData
  F__law_rows : Fun K "_law_rows" "_law_rows" s__law_rows a__law_rows d__law_rows
  m__law_rows : mg "_law_rows" = some (.ref a__law_rows)
  a_check_inputs : Addr
  d_check_inputs : FuncData
  F_check_inputs : Fun K "check_inputs" "check_inputs" s_check_inputs a_check_inputs d_check_inputs
  m_check_inputs : mg "check_inputs" = some (.ref a_check_inputs)
  a_output_of : Addr
  d_output_of : FuncData
  F_output_of : Fun K "output_of" "output_of" s_output_of a_output_of d_output_of
  m_output_of : mg "output_of" = some (.ref a_output_of)
  a_fields_of : Addr
  d_fields_of : FuncData
  F_fields_of : Fun K "fields_of" "fields_of" s_fields_of a_fields_of d_fields_of
  m_fields_of : mg "fields_of" = some (.ref a_fields_of)
  a_check_plan : Addr
  d_check_plan : FuncData
  F_check_plan : Fun K "check_plan" "check_plan" s_check_plan a_check_plan d_check_plan
  m_check_plan : mg "check_plan" = some (.ref a_check_plan)
  a__law_told : Addr
  d__law_told : FuncData
  F__law_told : Fun K "_law_told" "_law_told" s__law_told a__law_told d__law_told
  m__law_told : mg "_law_told" = some (.ref a__law_told)
  a_is_source : Addr
  d_is_source : FuncData
  F_is_source : Fun K "is_source" "is_source" s_is_source a_is_source d_is_source
  m_is_source : mg "is_source" = some (.ref a_is_source)
  a_sources_of : Addr
  d_sources_of : FuncData
  F_sources_of : Fun K "sources_of" "sources_of" s_sources_of a_sources_of d_sources_of
  m_sources_of : mg "sources_of" = some (.ref a_sources_of)
  a_law : Addr
  d_law : FuncData
  F_law : Fun K "law" "law" s_law a_law d_law
  m_law : mg "law" = some (.ref a_law)
  z_bool : mg "bool" = none
  z_enumerate : mg "enumerate" = none
  z_int : mg "int" = none
  z_isinstance : mg "isinstance" = none
  z_len : mg "len" = none
  z_list : mg "list" = none
  z_range : mg "range" = none
  z_repr : mg "repr" = none
  z_str : mg "str" = none
  z_tuple : mg "tuple" = none
  c_MOST_FIELDS : ∃ t, mg "MOST_FIELDS" = some (.int 8 t)
  c_MOST_NODES : ∃ t, mg "MOST_NODES" = some (.int 16 t)
  c_TWO_SIDES : GTup K mg "TWO_SIDES" ["union", "near", "asof", "join"]
  CT : Addr
  fI : Addr
  C_InvalidOperator : Addr
  C_InvalidPlan : Addr
  C_TideweirError : Addr
  X_InvalidOperator : Tw.TdTxt P K mg "InvalidOperator" C_InvalidOperator CT fI
  X_InvalidPlan : Tw.TdTxt P K mg "InvalidPlan" C_InvalidPlan CT fI
  X_TideweirError : Tw.TdTxt P K mg "TideweirError" C_TideweirError CT fI
  ex_InvalidOperator_InvalidOperator : PySem.W.exmOne K (.ref C_InvalidOperator) (.ref C_InvalidOperator) = some true
  ex_InvalidPlan_InvalidPlan : PySem.W.exmOne K (.ref C_InvalidPlan) (.ref C_InvalidPlan) = some true
  ki_InvalidPlan_TideweirError : PySem.W.kitOne K (.ref C_InvalidPlan) (.ref C_TideweirError) = some true
section
variable {P : Program} {w : World} {K : PySem.W.Frag} {mg : Str → Option Value} {base : Heap} (T : Txt P K mg)
theorem bd__law_r_fields : Binds K T.d__law_r_fields [] [] := T.F__law_r_fields.binds (ps := []) fun _ _ _ _ _ _ us hl => match us, hl with | [], _ => rfl
theorem ok__law_r_fields : FnOk P w K mg base CX0 1 T.a__law_r_fields T.d__law_r_fields [] (spV ⟨K, P, w⟩ 0 f__law_r_fields) := fn_V (N := N__law_r_fields) (g := g__law_r_fields) T.F__law_r_fields sc__law_r_fields fun cdv A outer s H E hr =>
  (dss_one (ds_ret (de_tup (da_cs (de_tup (da_cs de_str (da_cs de_str da_nl))) (da_cs (de_tup (da_cs de_str (da_cs de_str da_nl))) da_nl)))))
theorem bd__law_s_fields : Binds K T.d__law_s_fields [] [] := T.F__law_s_fields.binds (ps := []) fun _ _ _ _ _ _ us hl => match us, hl with | [], _ => rfl
theorem ok__law_s_fields : FnOk P w K mg base CX0 1 T.a__law_s_fields T.d__law_s_fields [] (spV ⟨K, P, w⟩ 0 f__law_s_fields) := fn_V (N := N__law_s_fields) (g := g__law_s_fields) T.F__law_s_fields sc__law_s_fields fun cdv A outer s H E hr =>
  (dss_one (ds_ret (de_tup (da_cs (de_tup (da_cs de_str (da_cs de_str da_nl))) (da_cs (de_tup (da_cs de_str (da_cs de_str da_nl))) (da_cs (de_tup (da_cs de_str (da_cs de_str da_nl))) da_nl))))))
theorem bd__law_broken : Binds K T.d__law_broken ["plan", "row"] [] := T.F__law_broken.binds (ps := ["plan", "row"]) fun _ _ _ _ _ _ us hl => match us, hl with | [_, _], _ => rfl
theorem ok__law_broken : FnOk P w K mg base CX0 2 T.a__law_broken T.d__law_broken ["plan", "row"] (spV ⟨K, P, w⟩ 2 f__law_broken) := fn_V (N := N__law_broken) (g := g__law_broken) T.F__law_broken sc__law_broken fun cdv A outer s H E hr =>
  (dss_cons (ds_set (i := 2) sc__law_broken.nd rfl (.inl rfl) (de_bin op_modD (de_callTy call_intD (by rfl) T.z_int bt_int (da_cs (dv 1) da_nl)) de_int))
    (dss_cons (ds_set (i := 3) sc__law_broken.nd rfl (.inl rfl) (de_ifE (dt_cmp op_gtD (de_callB call_lenD (by rfl) T.z_len bb_len (da_cs (dv 0) da_nl)) de_int (nomark _)) (de_bin op_addD de_int (de_bin op_modD (de_callTy call_intD (by rfl) T.z_int bt_int (da_cs (de_bin op_fdivD (dv 1) de_int) da_nl)) (de_bin op_subD (de_callB call_lenD (by rfl) T.z_len bb_len (da_cs (dv 0) da_nl)) de_int))) de_int))
    (dss_cons (ds_asg (ps_asg (de_ix ix_D (dv 0) (dv 3) (fun _ _ => rfl)) (dg_tup rfl (dgs_cons (dg_name (i := 4) sc__law_broken.nd rfl (.inl rfl)) (dgs_cons (dg_name (i := 5) sc__law_broken.nd rfl (.inl rfl)) dgs_nil)))))
    (dss_cons (ds_if (dt_cmp (op_eqD' hr.units) (dv 2) de_int (nomark _)) (dss_one (ds_ret (de_tup (da_cs (de_tup da_nl) (da_cs de_str da_nl))))) dss_nil)
    (dss_cons (ds_if (dt_cmp (op_eqD' hr.units) (dv 2) de_int (nomark _)) (dss_one (ds_ret (de_tup (da_cs (de_bin op_addD (dv 0) (de_bin op_mulR (de_tup (da_cs (de_tup (da_cs (de_tup (da_cs de_str (da_cs de_str (da_cs (de_call0 (ok__law_s_fields T) (hr.mono (by decide)) (by rfl) T.m__law_s_fields T.F__law_s_fields.kp (bd__law_s_fields T)) da_nl)))) (da_cs (de_tup da_nl) da_nl))) da_nl)) (de_bin op_subD de_int (de_callB call_lenD (by rfl) T.z_len bb_len (da_cs (dv 0) da_nl))))) (da_cs de_str da_nl))))) dss_nil)
    (dss_cons (ds_if (dt_cmp (op_eqD' hr.units) (dv 2) de_int (nomark _)) (dss_one (ds_ret (de_tup (da_cs (de_bin op_addD (de_bin op_addD (de_slice (dv 0) do_none (do_some (dv 3))) (de_tup (da_cs (de_tup (da_cs (dv 4) (da_cs (de_bin op_addD (dv 5) (de_tup (da_cs de_int da_nl))) da_nl))) da_nl))) (de_slice (dv 0) (do_some (de_bin op_addD (dv 3) de_int)) do_none)) (da_cs (de_bin op_addD (de_bin op_addD de_str (de_callTy call_strD (by rfl) T.z_str bt_str (da_cs (dv 3) da_nl))) de_str) da_nl))))) dss_nil)
    (dss_cons (ds_if (dt_cmp (op_eqD' hr.units) (dv 2) de_int (nomark _)) (dss_cons (ds_set (i := 6) sc__law_broken.nd rfl (.inl rfl) (de_slice (de_bin op_addD (dv 5) (de_tup (da_cs de_int da_nl))) do_none (do_some (de_bin op_addD (de_callB call_lenD (by rfl) T.z_len bb_len (da_cs (dv 5) da_nl)) (de_callTy call_intD (by rfl) T.z_int bt_int (da_cs (de_cmp (op_eqD' hr.units) (dv 3) de_int (nomark _)) da_nl))))))
    (dss_cons (ds_set (i := 6) sc__law_broken.nd rfl (.inl rfl) (de_bin op_addD (de_slice (dv 6) do_none (do_some (de_un un_negD de_int))) (de_tup (da_cs (de_ix ix_D (df_de (df_lst (da_cs (dv 3) (da_cs (de_bin op_addD (dv 3) de_int) (da_cs (de_un un_negD de_int) da_nl))))) (de_bin op_modD (de_callTy call_intD (by rfl) T.z_int bt_int (da_cs (de_bin op_fdivD (dv 1) de_int) da_nl)) de_int) (fun _ _ => rfl)) da_nl))))
    (dss_one (ds_ret (de_tup (da_cs (de_bin op_addD (de_bin op_addD (de_slice (dv 0) do_none (do_some (dv 3))) (de_tup (da_cs (de_tup (da_cs (dv 4) (da_cs (dv 6) da_nl))) da_nl))) (de_slice (dv 0) (do_some (de_bin op_addD (dv 3) de_int)) do_none)) (da_cs (de_bin op_addD (de_bin op_addD de_str (de_callTy call_strD (by rfl) T.z_str bt_str (da_cs (dv 3) da_nl))) de_str) da_nl))))))) dss_nil)
    (dss_cons (ds_if (dt_cmp (op_eqD' hr.units) (dv 2) de_int (nomark _)) (dss_one (ds_ret (de_tup (da_cs (de_bin op_addD (dv 0) (de_tup (da_cs (de_tup (da_cs (de_tup (da_cs de_str (da_cs de_str (da_cs (de_call0 (ok__law_r_fields T) (hr.mono (by decide)) (by rfl) T.m__law_r_fields T.F__law_r_fields.kp (bd__law_r_fields T)) da_nl)))) (da_cs (de_tup da_nl) da_nl))) da_nl))) (da_cs (de_bin op_addD (de_bin op_addD de_str (de_callTy call_strD (by rfl) T.z_str bt_str (da_cs (de_callB call_lenD (by rfl) T.z_len bb_len (da_cs (dv 0) da_nl)) da_nl))) de_str) da_nl))))) dss_nil)
    (dss_cons (ds_if (dt_cmp (op_eqD' hr.units) (dv 2) de_int (nomark _)) (dss_one (ds_ret (de_tup (da_cs (de_bin op_addD (dv 0) (de_tup (da_cs (de_tup (da_cs (de_tup (da_cs de_str (da_cs (de_tup (da_cs de_str (da_cs de_str da_nl))) da_nl))) (da_cs (de_tup (da_cs de_int da_nl)) da_nl))) da_nl))) (da_cs (de_bin op_addD (de_bin op_addD de_str (de_callTy call_strD (by rfl) T.z_str bt_str (da_cs (de_callB call_lenD (by rfl) T.z_len bb_len (da_cs (dv 0) da_nl)) da_nl))) de_str) da_nl))))) dss_nil)
    (dss_one (ds_ret (de_tup (da_cs (de_bin op_addD (dv 0) (de_tup (da_cs (de_tup (da_cs (de_tup (da_cs de_str (da_cs (de_tup (da_cs de_str (da_cs de_str da_nl))) da_nl))) (da_cs (de_tup (da_cs de_int da_nl)) da_nl))) da_nl))) (da_cs (de_bin op_addD (de_bin op_addD de_str (de_callTy call_strD (by rfl) T.z_str bt_str (da_cs (de_callB call_lenD (by rfl) T.z_len bb_len (da_cs (dv 0) da_nl)) da_nl))) de_str) da_nl))))))))))))))
theorem bd__law_columns : Binds K T.d__law_columns ["fields", "kind"] [] := T.F__law_columns.binds (ps := ["fields", "kind"]) fun _ _ _ _ _ _ us hl => match us, hl with | [_, _], _ => rfl
theorem ok__law_columns : FnOk P w K mg base CX0 1 T.a__law_columns T.d__law_columns ["fields", "kind"] (spV ⟨K, P, w⟩ 2 f__law_columns) := fn_V (N := N__law_columns) (g := g__law_columns) T.F__law_columns sc__law_columns fun cdv A outer s H E hr =>
  (dss_one (ds_ret (df_de (df_lc (pe_lc (own := [("pair", 2)]) (by rfl) sc__law_columns.nd (di_seq (dv 0)) (blkOk_by (own := [("pair", 2)]) (N := N__law_columns) (sc := defScope s__law_columns) (by decide +kernel)) (fun _ _ _ _ _ => (dg_name (i := 2) sc__law_columns.nd rfl (by first | exact .inl rfl | exact .inr rfl))) (fun _ _ _ _ _ => (dts_one (dt_bool (dt_or (dt_cmp op_isD (dv 1) de_non (nomark _)) (dt_or1 (dt_cmp (op_eqD' hr.units) (de_ix ix_D (dv 2) de_int (fun _ _ => rfl)) (dv 1) (nomark _))))))) (fun _ _ _ _ _ => (de_ix ix_D (dv 2) de_int (fun _ _ => rfl))))))))
theorem bd__law_pick : Binds K T.d__law_pick ["names", "row"] [] := T.F__law_pick.binds (ps := ["names", "row"]) fun _ _ _ _ _ _ us hl => match us, hl with | [_, _], _ => rfl
theorem ok__law_pick : FnOk P w K mg base CX0 1 T.a__law_pick T.d__law_pick ["names", "row"] (spV ⟨K, P, w⟩ 2 f__law_pick) := fn_V (N := N__law_pick) (g := g__law_pick) T.F__law_pick sc__law_pick fun cdv A outer s H E hr =>
  (dss_cons (ds_if (dt_cmp (op_eqD' hr.units) (de_callB call_lenD (by rfl) T.z_len bb_len (da_cs (dv 0) da_nl)) de_int (nomark _)) (dss_one (ds_ret de_str)) dss_nil)
    (dss_one (ds_ret (de_ix ix_D (dv 0) (de_bin op_modD (de_callTy call_intD (by rfl) T.z_int bt_int (da_cs (dv 1) da_nl)) (de_callB call_lenD (by rfl) T.z_len bb_len (da_cs (dv 0) da_nl))) (fun _ _ => rfl)))))
theorem bd__law_aggs : Binds K T.d__law_aggs ["fields", "row", "more"] [] := T.F__law_aggs.binds (ps := ["fields", "row", "more"]) fun _ _ _ _ _ _ us hl => match us, hl with | [_, _, _], _ => rfl
theorem ok__law_aggs : FnOk P w K mg base CX0 2 T.a__law_aggs T.d__law_aggs ["fields", "row", "more"] (spV ⟨K, P, w⟩ 3 f__law_aggs) := fn_V (N := N__law_aggs) (g := g__law_aggs) T.F__law_aggs sc__law_aggs fun cdv A outer s H E hr =>
  (dss_cons (ds_set (i := 3) sc__law_aggs.nd rfl (.inl rfl) (de_bin op_addD (df_de (df_lst (da_cs de_str (da_cs de_str (da_cs de_str (da_cs de_str (da_cs de_str da_nl))))))) (dv 2)))
    (dss_cons (ds_own (i := 4) sc__law_aggs.nd rfl (.inl rfl) (df_lst da_nl))
    (dss_cons (ds_for PassesOwn.never rfl (di_rng1 (by rfl) T.z_range (da_cs (de_bin op_addD de_int (de_bin op_modD (de_callTy call_intD (by rfl) T.z_int bt_int (da_cs (dv 1) da_nl)) de_int)) da_nl)) (dg_name (i := 5) sc__law_aggs.nd rfl (.inl rfl)) (dss_cons (ds_set (i := 6) sc__law_aggs.nd rfl (.inl rfl) (de_ix ix_D (dv 3) (de_bin op_modD (de_callTy call_intD (by rfl) T.z_int bt_int (da_cs (de_bin op_fdivD (dv 1) (de_bin op_addD de_int (de_bin op_mulL de_int (dv 5)))) da_nl)) (de_callB call_lenD (by rfl) T.z_len bb_len (da_cs (dv 3) da_nl))) (fun _ _ => rfl)))
    (dss_cons (ds_set (i := 7) sc__law_aggs.nd rfl (.inl rfl) (de_call (ok__law_columns T) (hr.mono (by decide)) (by rfl) T.m__law_columns T.F__law_columns.kp (bd__law_columns T) (by rfl) (da_cs (dv 0) (da_cs (de_ifE (dt_cmp (op_inD' (in65 hr)) (dv 6) (de_tup (da_cs de_str (da_cs de_str da_nl))) (by rfl)) de_str de_non) da_nl)) (len_cons (len_cons len_nil))))
    (dss_cons (ds_set (i := 8) sc__law_aggs.nd rfl (.inl rfl) (de_call (ok__law_pick T) (hr.mono (by decide)) (by rfl) T.m__law_pick T.F__law_pick.kp (bd__law_pick T) (by rfl) (da_cs (dv 7) (da_cs (de_bin op_fdivD (dv 1) (de_bin op_addD de_int (dv 5))) da_nl)) (len_cons (len_cons len_nil))))
    (dss_cons (ds_if (dt_bool (dt_and (dt_cmp (op_eqD' hr.units) (dv 6) de_str (nomark _)) (dt_and1 (dt_cmp (op_eqD' hr.units) (de_bin op_modD (de_bin op_fdivD (dv 1) de_int) de_int) de_int (nomark _))))) (dss_one (ds_set (i := 8) sc__law_aggs.nd rfl (.inl rfl) de_non)) dss_nil)
    (dss_one (ds_app 4 (pe_bm PySem.F.plainAttrs_list PySem.F.slot_list_append PySem.F.type_list_append mt_append (pv 4) (pa_cons (de_tup (da_cs (de_bin op_addD de_str (de_callTy call_strD (by rfl) T.z_str bt_str (da_cs (de_bin op_addD (dv 5) (de_bin op_modD (de_callTy call_intD (by rfl) T.z_int bt_int (da_cs (de_bin op_fdivD (dv 1) de_int) da_nl)) de_int)) da_nl))) (da_cs (dv 6) (da_cs (dv 8) da_nl)))) pa_nil)))))))))
    (dss_one (ds_ret (de_callTy call_tupD (by rfl) T.z_tuple bt_tuple (da_cs (dz 4) da_nl)))))))
theorem bd__law_keys : Binds K T.d__law_keys ["fields", "row", "least"] [] := T.F__law_keys.binds (ps := ["fields", "row", "least"]) fun _ _ _ _ _ _ us hl => match us, hl with | [_, _, _], _ => rfl
theorem ok__law_keys : FnOk P w K mg base CX0 2 T.a__law_keys T.d__law_keys ["fields", "row", "least"] (spV ⟨K, P, w⟩ 3 f__law_keys) := fn_V (N := N__law_keys) (g := g__law_keys) T.F__law_keys sc__law_keys fun cdv A outer s H E hr =>
  (dss_cons (ds_set (i := 3) sc__law_keys.nd rfl (.inl rfl) (de_call (ok__law_columns T) (hr.mono (by decide)) (by rfl) T.m__law_columns T.F__law_columns.kp (bd__law_columns T) (by rfl) (da_cs (dv 0) (da_cs de_non da_nl)) (len_cons (len_cons len_nil))))
    (dss_cons (ds_own (i := 4) sc__law_keys.nd rfl (.inl rfl) (df_lst da_nl))
    (dss_cons (ds_for PassesOwn.never rfl (di_rng1 (by rfl) T.z_range (da_cs (de_bin op_addD (dv 2) (de_bin op_modD (de_callTy call_intD (by rfl) T.z_int bt_int (da_cs (dv 1) da_nl)) de_int)) da_nl)) (dg_name (i := 5) sc__law_keys.nd rfl (.inl rfl)) (dss_cons (ds_set (i := 6) sc__law_keys.nd rfl (.inl rfl) (de_call (ok__law_pick T) (hr.mono (by decide)) (by rfl) T.m__law_pick T.F__law_pick.kp (bd__law_pick T) (by rfl) (da_cs (dv 3) (da_cs (de_bin op_fdivD (dv 1) (de_bin op_addD de_int (de_bin op_mulL de_int (dv 5)))) da_nl)) (len_cons (len_cons len_nil))))
    (dss_one (ds_if (dbt_nin 4 (in65 hr) (dv 6)) (dss_one (ds_app 4 (pe_bm PySem.F.plainAttrs_list PySem.F.slot_list_append PySem.F.type_list_append mt_append (pv 4) (pa_cons (dv 6) pa_nil)))) dss_nil))))
    (dss_one (ds_ret (de_callTy call_tupD (by rfl) T.z_tuple bt_tuple (da_cs (dz 4) da_nl)))))))
theorem bd__law_map : Binds K T.d__law_map ["fields", "row"] [] := T.F__law_map.binds (ps := ["fields", "row"]) fun _ _ _ _ _ _ us hl => match us, hl with | [_, _], _ => rfl
theorem ok__law_map : FnOk P w K mg base CX0 2 T.a__law_map T.d__law_map ["fields", "row"] (spV ⟨K, P, w⟩ 2 f__law_map) := fn_V (N := N__law_map) (g := g__law_map) T.F__law_map sc__law_map fun cdv A outer s H E hr =>
  (dss_cons (ds_set (i := 2) sc__law_map.nd rfl (.inl rfl) (de_call (ok__law_columns T) (hr.mono (by decide)) (by rfl) T.m__law_columns T.F__law_columns.kp (bd__law_columns T) (by rfl) (da_cs (dv 0) (da_cs de_non da_nl)) (len_cons (len_cons len_nil))))
    (dss_cons (ds_if (dt_cmp (op_eqD' hr.units) (de_bin op_modD (dv 1) de_int) de_int (nomark _)) (dss_one (ds_ret (de_tup (da_cs de_str (da_cs (de_callTy call_tupD (by rfl) T.z_tuple bt_tuple (da_cs (df_de (df_lc (pe_lc (own := [("name", 9)]) (by rfl) sc__law_map.nd (di_seq (dv 2)) (blkOk_by (own := [("name", 9)]) (N := N__law_map) (sc := defScope s__law_map) (by decide +kernel)) (fun _ _ _ _ _ => (dg_name (i := 9) sc__law_map.nd rfl (by first | exact .inl rfl | exact .inr rfl))) (fun _ _ _ _ _ => dts_nil) (fun _ _ _ _ _ => (de_tup (da_cs (dv 9) (da_cs (de_tup (da_cs de_str (da_cs (dv 9) da_nl))) da_nl))))))) da_nl)) da_nl))))) dss_nil)
    (dss_cons (ds_set (i := 3) sc__law_map.nd rfl (.inl rfl) (df_de (df_lst (da_cs de_str (da_cs de_str (da_cs de_str (da_cs de_str da_nl)))))))
    (dss_cons (ds_own (i := 4) sc__law_map.nd rfl (.inl rfl) (df_lst da_nl))
    (dss_cons (ds_for PassesOwn.never rfl (di_rng1 (by rfl) T.z_range (da_cs (de_bin op_addD de_int (de_bin op_modD (de_callTy call_intD (by rfl) T.z_int bt_int (da_cs (de_bin op_fdivD (dv 1) de_int) da_nl)) de_int)) da_nl)) (dg_name (i := 5) sc__law_map.nd rfl (.inl rfl)) (dss_cons (ds_set (i := 6) sc__law_map.nd rfl (.inl rfl) (de_tup (da_cs de_str (da_cs (de_call (ok__law_pick T) (hr.mono (by decide)) (by rfl) T.m__law_pick T.F__law_pick.kp (bd__law_pick T) (by rfl) (da_cs (dv 2) (da_cs (de_bin op_fdivD (dv 1) (de_bin op_addD de_int (de_bin op_mulL de_int (dv 5)))) da_nl)) (len_cons (len_cons len_nil))) da_nl))))
    (dss_cons (ds_set (i := 7) sc__law_map.nd rfl (.inl rfl) (de_tup (da_cs de_str (da_cs (de_call (ok__law_pick T) (hr.mono (by decide)) (by rfl) T.m__law_pick T.F__law_pick.kp (bd__law_pick T) (by rfl) (da_cs (de_call (ok__law_columns T) (hr.mono (by decide)) (by rfl) T.m__law_columns T.F__law_columns.kp (bd__law_columns T) (by rfl) (da_cs (dv 0) (da_cs de_str da_nl)) (len_cons (len_cons len_nil))) (da_cs (de_bin op_fdivD (dv 1) (de_bin op_addD de_int (de_bin op_mulL de_int (dv 5)))) da_nl)) (len_cons (len_cons len_nil))) da_nl))))
    (dss_cons (ds_set (i := 8) sc__law_map.nd rfl (.inl rfl) (de_tup (da_cs de_str (da_cs (de_ix ix_D (df_de (df_lst (da_cs de_str (da_cs de_str (da_cs de_str da_nl))))) (de_bin op_modD (de_callTy call_intD (by rfl) T.z_int bt_int (da_cs (de_bin op_fdivD (dv 1) de_int) da_nl)) de_int) (fun _ _ => rfl)) (da_cs (dv 7) (da_cs (de_tup (da_cs de_str (da_cs (de_bin op_modD (de_callTy call_intD (by rfl) T.z_int bt_int (da_cs (de_bin op_fdivD (dv 1) de_int) da_nl)) de_int) da_nl))) da_nl))))))
    (dss_one (ds_app 4 (pe_bm PySem.F.plainAttrs_list PySem.F.slot_list_append PySem.F.type_list_append mt_append (pv 4) (pa_cons (de_tup (da_cs (de_ix ix_D (dv 3) (de_bin op_modD (de_callTy call_intD (by rfl) T.z_int bt_int (da_cs (de_bin op_addD (de_bin op_fdivD (dv 1) de_int) (dv 5)) da_nl)) de_int) (fun _ _ => rfl)) (da_cs (de_ix ix_D (df_de (df_lst (da_cs (dv 6) (da_cs (dv 8) (da_cs (dv 6) da_nl))))) (de_bin op_modD (de_callTy call_intD (by rfl) T.z_int bt_int (da_cs (de_bin op_fdivD (dv 1) (de_bin op_addD de_int (dv 5))) da_nl)) de_int) (fun _ _ => rfl)) da_nl))) pa_nil))))))))
    (dss_one (ds_ret (de_tup (da_cs de_str (da_cs (de_callTy call_tupD (by rfl) T.z_tuple bt_tuple (da_cs (dz 4) da_nl)) da_nl))))))))))
theorem bd__law_on : Binds K T.d__law_on ["one", "two", "row"] [] := T.F__law_on.binds (ps := ["one", "two", "row"]) fun _ _ _ _ _ _ us hl => match us, hl with | [_, _, _], _ => rfl
theorem ok__law_on : FnOk P w K mg base CX0 2 T.a__law_on T.d__law_on ["one", "two", "row"] (spV ⟨K, P, w⟩ 3 f__law_on) := fn_V (N := N__law_on) (g := g__law_on) T.F__law_on sc__law_on fun cdv A outer s H E hr =>
  (dss_cons (ds_set (i := 3) sc__law_on.nd rfl (by first | exact .inr rfl | exact .inl rfl) (de_call (ok__law_pick T) (hr.mono (by decide)) (by rfl) T.m__law_pick T.F__law_pick.kp (bd__law_pick T) (by rfl) (da_cs (de_call (ok__law_columns T) (hr.mono (by decide)) (by rfl) T.m__law_columns T.F__law_columns.kp (bd__law_columns T) (by rfl) (da_cs (dv 0) (da_cs de_non da_nl)) (len_cons (len_cons len_nil))) (da_cs (dv 2) da_nl)) (len_cons (len_cons len_nil))))
    (dss_cons (ds_lcO (i := 4) (ps_setLc (i := 4) (own := [("pair", 5)]) (by rfl) sc__law_on.nd rfl rfl (sw_true rfl rfl rfl (by decide +kernel)) (di_seq (dv 0)) (blkOk_by (own := [("pair", 5)]) (N := N__law_on) (sc := defScope s__law_on) (by decide +kernel)) (fun _ _ _ _ _ => (dg_name (i := 5) sc__law_on.nd rfl (by first | exact .inl rfl | exact .inr rfl))) (fun _ _ _ _ _ => (dts_one (dt_cmp (op_eqD' hr.units) (de_ix ix_D (dv 5) de_int (fun _ _ => rfl)) (dv 3) (nomark _)))) (fun _ _ _ _ _ => (de_ix ix_D (dv 5) de_int (fun _ _ => rfl)))))
    (dss_one (ds_ret (de_tup (da_cs (de_tup (da_cs (dv 3) (da_cs (de_call (ok__law_pick T) (hr.mono (by decide)) (by rfl) T.m__law_pick T.F__law_pick.kp (bd__law_pick T) (by rfl) (da_cs (de_call (ok__law_columns T) (hr.mono (by decide)) (by rfl) T.m__law_columns T.F__law_columns.kp (bd__law_columns T) (by rfl) (da_cs (dv 1) (da_cs (de_ifE (dt_cmp op_gtD (db_call 4 call_lenD (by rfl) T.z_len bb_len) de_int (nomark _)) (db_ix 4 de_int) de_non) da_nl)) (len_cons (len_cons len_nil))) (da_cs (de_bin op_fdivD (dv 2) de_int) da_nl)) (len_cons (len_cons len_nil))) da_nl))) da_nl))))))
theorem bd__law_where : Binds K T.d__law_where ["fields", "row"] [] := T.F__law_where.binds (ps := ["fields", "row"]) fun _ _ _ _ _ _ us hl => match us, hl with | [_, _], _ => rfl
theorem ok__law_where : FnOk P w K mg base CX0 2 T.a__law_where T.d__law_where ["fields", "row"] (spV ⟨K, P, w⟩ 2 f__law_where) := fn_V (N := N__law_where) (g := g__law_where) T.F__law_where sc__law_where fun cdv A outer s H E hr =>
  (dss_cons (ds_set (i := 2) sc__law_where.nd rfl (.inl rfl) (de_bin op_modD (de_callTy call_intD (by rfl) T.z_int bt_int (da_cs (dv 1) da_nl)) de_int))
    (dss_cons (ds_set (i := 3) sc__law_where.nd rfl (.inl rfl) (de_call (ok__law_columns T) (hr.mono (by decide)) (by rfl) T.m__law_columns T.F__law_columns.kp (bd__law_columns T) (by rfl) (da_cs (dv 0) (da_cs de_str da_nl)) (len_cons (len_cons len_nil))))
    (dss_cons (ds_set (i := 4) sc__law_where.nd rfl (.inl rfl) (de_tup (da_cs de_str (da_cs (de_call (ok__law_pick T) (hr.mono (by decide)) (by rfl) T.m__law_pick T.F__law_pick.kp (bd__law_pick T) (by rfl) (da_cs (dv 3) (da_cs (de_bin op_fdivD (dv 1) de_int) da_nl)) (len_cons (len_cons len_nil))) da_nl))))
    (dss_cons (ds_if (dt_cmp (op_eqD' hr.units) (dv 2) de_int (nomark _)) (dss_one (ds_ret (de_tup (da_cs de_str (da_cs (de_ix ix_D (df_de (df_lst (da_cs de_bl (da_cs de_bl (da_cs de_non da_nl))))) (de_bin op_modD (de_callTy call_intD (by rfl) T.z_int bt_int (da_cs (de_bin op_fdivD (dv 1) de_int) da_nl)) de_int) (fun _ _ => rfl)) da_nl))))) dss_nil)
    (dss_cons (ds_if (dt_cmp op_leD (dv 2) de_int (nomark _)) (dss_one (ds_ret (de_tup (da_cs de_str (da_cs (de_ix ix_D (df_de (df_lst (da_cs de_str (da_cs de_str (da_cs de_str da_nl))))) (de_bin op_modD (de_callTy call_intD (by rfl) T.z_int bt_int (da_cs (de_bin op_fdivD (dv 1) de_int) da_nl)) de_int) (fun _ _ => rfl)) (da_cs (dv 4) (da_cs (de_tup (da_cs de_str (da_cs (de_bin op_modD (de_callTy call_intD (by rfl) T.z_int bt_int (da_cs (de_bin op_fdivD (dv 1) de_int) da_nl)) de_int) da_nl))) da_nl))))))) dss_nil)
    (dss_cons (ds_if (dt_cmp (op_eqD' hr.units) (dv 2) de_int (nomark _)) (dss_one (ds_ret (de_tup (da_cs de_str (da_cs (de_call (ok__law_pick T) (hr.mono (by decide)) (by rfl) T.m__law_pick T.F__law_pick.kp (bd__law_pick T) (by rfl) (da_cs (de_call (ok__law_columns T) (hr.mono (by decide)) (by rfl) T.m__law_columns T.F__law_columns.kp (bd__law_columns T) (by rfl) (da_cs (dv 0) (da_cs de_str da_nl)) (len_cons (len_cons len_nil))) (da_cs (de_bin op_fdivD (dv 1) de_int) da_nl)) (len_cons (len_cons len_nil))) da_nl))))) dss_nil)
    (dss_cons (ds_if (dt_cmp (op_eqD' hr.units) (dv 2) de_int (nomark _)) (dss_cons (ds_set (i := 5) sc__law_where.nd rfl (.inl rfl) (de_tup (da_cs de_str (da_cs (de_call (ok__law_pick T) (hr.mono (by decide)) (by rfl) T.m__law_pick T.F__law_pick.kp (bd__law_pick T) (by rfl) (da_cs (de_call (ok__law_columns T) (hr.mono (by decide)) (by rfl) T.m__law_columns T.F__law_columns.kp (bd__law_columns T) (by rfl) (da_cs (dv 0) (da_cs de_str da_nl)) (len_cons (len_cons len_nil))) (da_cs (de_bin op_fdivD (dv 1) de_int) da_nl)) (len_cons (len_cons len_nil))) da_nl))))
    (dss_one (ds_ret (de_tup (da_cs de_str (da_cs de_str (da_cs (dv 5) (da_cs (de_tup (da_cs de_str (da_cs (de_ix ix_D (df_de (df_lst (da_cs de_str (da_cs de_str da_nl)))) (de_bin op_modD (de_callTy call_intD (by rfl) T.z_int bt_int (da_cs (de_bin op_fdivD (dv 1) de_int) da_nl)) de_int) (fun _ _ => rfl)) da_nl))) da_nl)))))))) dss_nil)
    (dss_cons (ds_if (dt_cmp (op_eqD' hr.units) (dv 2) de_int (nomark _)) (dss_one (ds_ret (de_tup (da_cs de_str (da_cs (de_tup (da_cs de_str (da_cs (de_tup (da_cs de_str (da_cs (de_call (ok__law_pick T) (hr.mono (by decide)) (by rfl) T.m__law_pick T.F__law_pick.kp (bd__law_pick T) (by rfl) (da_cs (de_call (ok__law_columns T) (hr.mono (by decide)) (by rfl) T.m__law_columns T.F__law_columns.kp (bd__law_columns T) (by rfl) (da_cs (dv 0) (da_cs de_non da_nl)) (len_cons (len_cons len_nil))) (da_cs (de_bin op_fdivD (dv 1) de_int) da_nl)) (len_cons (len_cons len_nil))) da_nl))) da_nl))) da_nl))))) dss_nil)
    (dss_one (ds_ret (de_tup (da_cs de_str (da_cs de_str (da_cs (de_tup (da_cs de_str (da_cs (dv 4) da_nl))) (da_cs (de_tup (da_cs de_str (da_cs de_str (da_cs (de_tup (da_cs de_str (da_cs de_int da_nl))) (da_cs (dv 4) da_nl))))) da_nl)))))))))))))))
theorem bd__law_operator : Binds K T.d__law_operator ["fields", "other", "row"] [] := T.F__law_operator.binds (ps := ["fields", "other", "row"]) fun _ _ _ _ _ _ us hl => match us, hl with | [_, _, _], _ => rfl
theorem ok__law_operator : FnOk P w K mg base CX0 3 T.a__law_operator T.d__law_operator ["fields", "other", "row"] (spV ⟨K, P, w⟩ 3 f__law_operator) := fn_V (N := N__law_operator) (g := g__law_operator) T.F__law_operator sc__law_operator fun cdv A outer s H E hr =>
  (dss_cons (ds_set (i := 3) sc__law_operator.nd rfl (.inl rfl) (de_bin op_modD (de_callTy call_intD (by rfl) T.z_int bt_int (da_cs (dv 2) da_nl)) de_int))
    (dss_cons (ds_set (i := 4) sc__law_operator.nd rfl (.inl rfl) (de_callTy call_intD (by rfl) T.z_int bt_int (da_cs (de_bin op_fdivD (dv 2) de_int) da_nl)))
    (dss_cons (ds_set (i := 5) sc__law_operator.nd rfl (.inl rfl) (de_ix ix_D (df_de (df_lst (da_cs de_str (da_cs de_str da_nl)))) (de_bin op_modD (dv 4) de_int) (fun _ _ => rfl)))
    (dss_cons (ds_if (dt_cmp op_leD (dv 3) de_int (nomark _)) (dss_one (ds_ret (de_tup (da_cs de_str (da_cs (de_call (ok__law_where T) (hr.mono (by decide)) (by rfl) T.m__law_where T.F__law_where.kp (bd__law_where T) (by rfl) (da_cs (dv 0) (da_cs (dv 4) da_nl)) (len_cons (len_cons len_nil))) da_nl))))) dss_nil)
    (dss_cons (ds_if (dt_cmp op_leD (dv 3) de_int (nomark _)) (dss_one (ds_ret (de_call (ok__law_map T) (hr.mono (by decide)) (by rfl) T.m__law_map T.F__law_map.kp (bd__law_map T) (by rfl) (da_cs (dv 0) (da_cs (dv 4) da_nl)) (len_cons (len_cons len_nil))))) dss_nil)
    (dss_cons (ds_if (dt_cmp (op_eqD' hr.units) (dv 3) de_int (nomark _)) (dss_one (ds_ret (de_tup (da_cs de_str da_nl)))) dss_nil)
    (dss_cons (ds_if (dt_cmp (op_eqD' hr.units) (dv 3) de_int (nomark _)) (dss_one (ds_ret (de_tup (da_cs de_str (da_cs (de_call (ok__law_keys T) (hr.mono (by decide)) (by rfl) T.m__law_keys T.F__law_keys.kp (bd__law_keys T) (by rfl) (da_cs (dv 0) (da_cs (dv 4) (da_cs de_int da_nl))) (len_cons (len_cons (len_cons len_nil)))) (da_cs (de_call (ok__law_aggs T) (hr.mono (by decide)) (by rfl) T.m__law_aggs T.F__law_aggs.kp (bd__law_aggs T) (by rfl) (da_cs (dv 0) (da_cs (de_bin op_fdivD (dv 4) de_int) (da_cs (df_de (df_lst da_nl)) da_nl))) (len_cons (len_cons (len_cons len_nil)))) da_nl)))))) dss_nil)
    (dss_cons (ds_if (dt_cmp (op_eqD' hr.units) (dv 3) de_int (nomark _)) (dss_cons (ds_set (i := 6) sc__law_operator.nd rfl (.inl rfl) (de_tup (da_cs (de_tup (da_cs (de_call (ok__law_pick T) (hr.mono (by decide)) (by rfl) T.m__law_pick T.F__law_pick.kp (bd__law_pick T) (by rfl) (da_cs (de_call (ok__law_columns T) (hr.mono (by decide)) (by rfl) T.m__law_columns T.F__law_columns.kp (bd__law_columns T) (by rfl) (da_cs (dv 0) (da_cs de_non da_nl)) (len_cons (len_cons len_nil))) (da_cs (dv 4) da_nl)) (len_cons (len_cons len_nil))) (da_cs (de_ix ix_D (df_de (df_lst (da_cs de_str (da_cs de_str da_nl)))) (de_bin op_modD (de_bin op_fdivD (dv 4) de_int) de_int) (fun _ _ => rfl)) da_nl))) da_nl)))
    (dss_one (ds_ret (de_tup (da_cs de_str (da_cs (de_call (ok__law_keys T) (hr.mono (by decide)) (by rfl) T.m__law_keys T.F__law_keys.kp (bd__law_keys T) (by rfl) (da_cs (dv 0) (da_cs (de_bin op_fdivD (dv 4) de_int) (da_cs de_int da_nl))) (len_cons (len_cons (len_cons len_nil)))) (da_cs (dv 6) (da_cs (de_bin op_addD de_int (de_bin op_modD (de_bin op_fdivD (dv 4) de_int) de_int)) da_nl)))))))) dss_nil)
    (dss_cons (ds_if (dt_cmp (op_eqD' hr.units) (dv 3) de_int (nomark _)) (dss_cons (ds_set (i := 7) sc__law_operator.nd rfl (.inl rfl) (de_ix ix_D (df_de (df_lst (da_cs (de_tup (da_cs de_str (da_cs de_int da_nl))) (da_cs (de_tup (da_cs de_str (da_cs de_int (da_cs de_int da_nl)))) (da_cs (de_tup (da_cs de_str (da_cs de_int da_nl))) da_nl))))) (de_bin op_modD (dv 4) de_int) (fun _ _ => rfl)))
    (dss_one (ds_ret (de_tup (da_cs de_str (da_cs (de_call (ok__law_keys T) (hr.mono (by decide)) (by rfl) T.m__law_keys T.F__law_keys.kp (bd__law_keys T) (by rfl) (da_cs (dv 0) (da_cs (de_bin op_fdivD (dv 4) de_int) (da_cs de_int da_nl))) (len_cons (len_cons (len_cons len_nil)))) (da_cs (dv 7) (da_cs (de_call (ok__law_aggs T) (hr.mono (by decide)) (by rfl) T.m__law_aggs T.F__law_aggs.kp (bd__law_aggs T) (by rfl) (da_cs (dv 0) (da_cs (de_bin op_fdivD (dv 4) de_int) (da_cs (df_de (df_lst (da_cs de_str (da_cs de_str da_nl)))) da_nl))) (len_cons (len_cons (len_cons len_nil)))) da_nl)))))))) dss_nil)
    (dss_cons (ds_if (dt_cmp (op_eqD' hr.units) (dv 3) de_int (nomark _)) (dss_one (ds_ret (de_tup (da_cs de_str (da_cs (de_call (ok__law_keys T) (hr.mono (by decide)) (by rfl) T.m__law_keys T.F__law_keys.kp (bd__law_keys T) (by rfl) (da_cs (dv 0) (da_cs (dv 4) (da_cs de_int da_nl))) (len_cons (len_cons (len_cons len_nil)))) (da_cs (de_bin op_addD de_int (de_bin op_modD (de_bin op_fdivD (dv 4) de_int) de_int)) da_nl)))))) dss_nil)
    (dss_cons (ds_if (dt_cmp (op_eqD' hr.units) (dv 3) de_int (nomark _)) (dss_one (ds_ret (de_tup (da_cs de_str (da_cs (de_call (ok__law_on T) (hr.mono (by decide)) (by rfl) T.m__law_on T.F__law_on.kp (bd__law_on T) (by rfl) (da_cs (dv 0) (da_cs (dv 1) (da_cs (de_bin op_fdivD (dv 4) de_int) da_nl))) (len_cons (len_cons (len_cons len_nil)))) (da_cs (de_un un_negD (de_bin op_modD (de_bin op_fdivD (dv 4) de_int) de_int)) (da_cs (de_bin op_modD (de_bin op_fdivD (dv 4) de_int) de_int) (da_cs (dv 5) da_nl)))))))) dss_nil)
    (dss_cons (ds_if (dt_cmp (op_eqD' hr.units) (dv 3) de_int (nomark _)) (dss_one (ds_ret (de_tup (da_cs de_str (da_cs (de_call (ok__law_on T) (hr.mono (by decide)) (by rfl) T.m__law_on T.F__law_on.kp (bd__law_on T) (by rfl) (da_cs (dv 0) (da_cs (dv 1) (da_cs (de_bin op_fdivD (dv 4) de_int) da_nl))) (len_cons (len_cons (len_cons len_nil)))) (da_cs (dv 5) da_nl)))))) dss_nil)
    (dss_one (ds_ret (de_ix ix_D (df_de (df_lst (da_cs (de_tup (da_cs de_str (da_cs (de_call (ok__law_on T) (hr.mono (by decide)) (by rfl) T.m__law_on T.F__law_on.kp (bd__law_on T) (by rfl) (da_cs (dv 0) (da_cs (dv 1) (da_cs (de_bin op_fdivD (dv 4) de_int) da_nl))) (len_cons (len_cons (len_cons len_nil)))) da_nl))) (da_cs (de_tup (da_cs de_str da_nl)) da_nl)))) (de_bin op_modD (dv 4) de_int) (fun _ _ => rfl))))))))))))))))
theorem bd_column_index : Binds K T.d_column_index ["fields", "name"] [] := T.F_column_index.binds (ps := ["fields", "name"]) fun _ _ _ _ _ _ us hl => match us, hl with | [_, _], _ => rfl
theorem ok_column_index : FnOk P w K mg base CX0 1 T.a_column_index T.d_column_index ["fields", "name"] (spV ⟨K, P, w⟩ 2 f_column_index) := fn_V (N := N_column_index) (g := g_column_index) T.F_column_index sc_column_index fun cdv A outer s H E hr =>
  (dss_cons (ds_for PassesOwn.never rfl (di_enum (by rfl) T.z_enumerate (da_cs (dv 0) da_nl)) (dg_tup rfl (dgs_cons (dg_name (i := 2) sc_column_index.nd rfl (.inl rfl)) (dgs_cons (dg_name (i := 3) sc_column_index.nd rfl (.inl rfl)) dgs_nil))) (dss_one (ds_if (dt_cmp (op_eqD' hr.units) (de_ix ix_D (dv 3) de_int (fun _ _ => rfl)) (dv 1) (nomark _)) (dss_one (ds_ret (dv 2))) dss_nil)))
    (dss_one (ds_ret de_non)))
theorem bd_type_in : Binds K T.d_type_in ["fields", "name"] [] := T.F_type_in.binds (ps := ["fields", "name"]) fun _ _ _ _ _ _ us hl => match us, hl with | [_, _], _ => rfl
theorem ok_type_in : FnOk P w K mg base (L2N.CX P w) 2 T.a_type_in T.d_type_in ["fields", "name"] (spX ⟨K, P, w⟩ mg 2 f_type_in) := fn_XN (N := N_type_in) (g := g_type_in) T.F_type_in sc_type_in fun cdv A outer s H E hr =>
  (sxs_cons (sx_ok (ds_set (i := 2) sc_type_in.nd rfl (.inl rfl) (de_call (ok_column_index T) (hr.mono (by decide)) (by rfl) T.m_column_index T.F_column_index.kp (bd_column_index T) (by rfl) (da_cs (dv 0) (da_cs (dv 1) da_nl)) (len_cons (len_cons len_nil)))))
    (sxs_cons (sx_if (tx_ok (dt_cmp op_isD (dv 2) de_non (nomark _))) (sxs_one (sx_raiseN rfl T.X_InvalidOperator hr (L2N.takes_of rfl rfl rfl rfl) (de_bin op_addD de_str (dv 1)) (by rfl))) sxs_nil)
    (sxs_one (sx_ok (ds_ret (de_ix ix_D (de_ix ix_D (dv 0) (dv 2) (fun _ _ => rfl)) de_int (fun _ _ => rfl)))))))
theorem bd_check_columns : Binds K T.d_check_columns ["operator", "fields"] [] := T.F_check_columns.binds (ps := ["operator", "fields"]) fun _ _ _ _ _ _ us hl => match us, hl with | [_, _], _ => rfl
theorem ok_check_columns : FnOk P w K mg base (L2N.CX P w) 3 T.a_check_columns T.d_check_columns ["operator", "fields"] (spX ⟨K, P, w⟩ mg 2 f_check_columns) := fn_XN (N := N_check_columns) (g := g_check_columns) T.F_check_columns sc_check_columns fun cdv A outer s H E hr =>
  (sxs_cons (sx_ok (ds_set (i := 2) sc_check_columns.nd rfl (.inl rfl) (de_ix ix_D (dv 0) de_int (fun _ _ => rfl))))
    (sxs_cons (sx_if (tx_ok (dt_cmp (op_inD' (in65 hr)) (dv 2) (de_tup (da_cs de_str (da_cs de_str (da_cs de_str (da_cs de_str da_nl))))) (by rfl))) (sxs_one (sx_for (passes_of rfl) rfl (di_seq (de_ix ix_D (dv 0) de_int (fun _ _ => rfl))) (dg_name (i := 3) sc_check_columns.nd rfl (.inl rfl)) (sxs_one (sx_expr (ex_callN (L2N.takes_of rfl rfl rfl rfl) (ok_type_in T) (hr.mono (by decide)) (by rfl) T.m_type_in T.F_type_in.kp (bd_type_in T) (ax_ok (da_cs (de_ix ix_D (dv 1) de_int (fun _ _ => rfl)) (da_cs (dv 3) da_nl))) (xlen_ok (len_cons (len_cons len_nil)))))))) sxs_nil)
    (sxs_cons (sx_if (tx_ok (dt_cmp (op_eqD' hr.units) (dv 2) de_str (nomark _))) (sxs_one (sx_for (passes_of rfl) rfl (di_seq (de_ix ix_D (dv 0) de_int (fun _ _ => rfl))) (dg_tup rfl (dgs_cons (dg_name (i := 3) sc_check_columns.nd rfl (.inl rfl)) (dgs_cons (dg_name (i := 4) sc_check_columns.nd rfl (.inl rfl)) dgs_nil))) (sxs_one (sx_expr (ex_callN (L2N.takes_of rfl rfl rfl rfl) (ok_type_in T) (hr.mono (by decide)) (by rfl) T.m_type_in T.F_type_in.kp (bd_type_in T) (ax_ok (da_cs (de_ix ix_D (dv 1) de_int (fun _ _ => rfl)) (da_cs (dv 3) da_nl))) (xlen_ok (len_cons (len_cons len_nil)))))))) sxs_nil)
    (sxs_cons (sx_if (tx_ok (dt_cmp (op_inD' (in65 hr)) (dv 2) (de_tup (da_cs de_str (da_cs de_str (da_cs de_str da_nl)))) (by rfl))) (sxs_one (sx_for (passes_of rfl) rfl (di_seq (de_ix ix_D (dv 0) de_int (fun _ _ => rfl))) (dg_tup rfl (dgs_cons (dg_name (i := 5) sc_check_columns.nd rfl (.inl rfl)) (dgs_cons (dg_name (i := 6) sc_check_columns.nd rfl (.inl rfl)) dgs_nil))) (sxs_cons (sx_expr (ex_callN (L2N.takes_of rfl rfl rfl rfl) (ok_type_in T) (hr.mono (by decide)) (by rfl) T.m_type_in T.F_type_in.kp (bd_type_in T) (ax_ok (da_cs (de_ix ix_D (dv 1) de_int (fun _ _ => rfl)) (da_cs (dv 5) da_nl))) (xlen_ok (len_cons (len_cons len_nil)))))
    (sxs_one (sx_expr (ex_callN (L2N.takes_of rfl rfl rfl rfl) (ok_type_in T) (hr.mono (by decide)) (by rfl) T.m_type_in T.F_type_in.kp (bd_type_in T) (ax_ok (da_cs (de_ix ix_D (dv 1) de_int (fun _ _ => rfl)) (da_cs (dv 6) da_nl))) (xlen_ok (len_cons (len_cons len_nil))))))))) sxs_nil)
    (sxs_one (sx_if (tx_ok (dt_cmp (op_inD' (in65 hr)) (dv 2) (de_tup (da_cs de_str (da_cs de_str da_nl))) (by rfl))) (sxs_one (sx_for (passes_of rfl) rfl (di_seq (de_ix ix_D (dv 0) (de_un un_negD de_int) (fun _ _ => rfl))) (dg_tup rfl (dgs_cons (dg_name (i := 3) sc_check_columns.nd rfl (.inl rfl)) (dgs_cons (dg_name (i := 7) sc_check_columns.nd rfl (.inl rfl)) (dgs_cons (dg_name (i := 8) sc_check_columns.nd rfl (.inl rfl)) dgs_nil)))) (sxs_one (sx_if (tx_ok (dt_cmp op_isntD (dv 8) de_non (nomark _))) (sxs_one (sx_expr (ex_callN (L2N.takes_of rfl rfl rfl rfl) (ok_type_in T) (hr.mono (by decide)) (by rfl) T.m_type_in T.F_type_in.kp (bd_type_in T) (ax_ok (da_cs (de_ix ix_D (dv 1) de_int (fun _ _ => rfl)) (da_cs (dv 8) da_nl))) (xlen_ok (len_cons (len_cons len_nil)))))) sxs_nil)))) sxs_nil))))))
theorem bd_check_kinds : Binds K T.d_check_kinds ["operator", "kinds"] [] := T.F_check_kinds.binds (ps := ["operator", "kinds"]) fun _ _ _ _ _ _ us hl => match us, hl with | [_, _], _ => rfl
theorem ok_check_kinds : FnOk P w K mg base (L2N.CX P w) 1 T.a_check_kinds T.d_check_kinds ["operator", "kinds"] (spX ⟨K, P, w⟩ mg 2 f_check_kinds) := fn_XN (N := N_check_kinds) (g := g_check_kinds) T.F_check_kinds sc_check_kinds fun cdv A outer s H E hr =>
  (sxs_cons (sx_ok (ds_set (i := 2) sc_check_kinds.nd rfl (.inl rfl) (de_ix ix_D (dv 0) de_int (fun _ _ => rfl))))
    (sxs_cons (sx_ok (ds_set (i := 3) sc_check_kinds.nd rfl (.inl rfl) (df_de (df_lst da_nl))))
    (sxs_cons (sx_ok (ds_if (dt_cmp (op_inD' (in65 hr)) (dv 2) (de_tup (da_cs de_str (da_cs de_str (da_cs de_str da_nl)))) (by rfl)) (dss_one (ds_set (i := 3) sc_check_kinds.nd rfl (.inl rfl) (de_slice (dv 1) do_none (do_some de_int)))) dss_nil))
    (sxs_cons (sx_ok (ds_if (dt_cmp (op_eqD' hr.units) (dv 2) de_str (nomark _)) (dss_one (ds_set (i := 3) sc_check_kinds.nd rfl (.inl rfl) (dv 1))) dss_nil))
    (sxs_one (sx_for (passes_of rfl) rfl (di_seq (dv 3)) (dg_name (i := 4) sc_check_kinds.nd rfl (.inl rfl)) (sxs_one (sx_if (tx_ok (dt_cmp (op_neD' hr.units) (dv 4) de_str (nomark _))) (sxs_one (sx_raiseN rfl T.X_InvalidOperator hr (L2N.takes_of rfl rfl rfl rfl) de_str (by rfl))) sxs_nil))))))))
theorem bd_agree : Binds K T.d_agree ["first", "second"] [] := T.F_agree.binds (ps := ["first", "second"]) fun _ _ _ _ _ _ us hl => match us, hl with | [_, _], _ => rfl
theorem ok_agree : FnOk P w K mg base CX0 1 T.a_agree T.d_agree ["first", "second"] (spV ⟨K, P, w⟩ 2 f_agree) := fn_V (N := N_agree) (g := g_agree) T.F_agree sc_agree fun cdv A outer s H E hr =>
  (dss_one (ds_ret (de_or (de_cmp op_isD (dv 0) de_non (nomark _)) (de_or (de_cmp op_isD (dv 1) de_non (nomark _)) (de_one (de_cmp (op_eqD' hr.units) (dv 0) (dv 1) (nomark _)))))))
theorem bd_differ : Binds K T.d_differ [] [] := T.F_differ.binds (ps := []) fun _ _ _ _ _ _ us hl => match us, hl with | [], _ => rfl
theorem ok_differ : FnOk P w K mg base (L2N.CX P w) 1 T.a_differ T.d_differ [] (spX ⟨K, P, w⟩ mg 0 f_differ) := fn_XN (N := N_differ) (g := g_differ) T.F_differ sc_differ fun cdv A outer s H E hr =>
  (sxs_one (sx_raiseN rfl T.X_InvalidOperator hr (L2N.takes_of rfl rfl rfl rfl) de_str (by rfl)))
theorem bd_check_pairs : Binds K T.d_check_pairs ["pairs", "fields"] [] := T.F_check_pairs.binds (ps := ["pairs", "fields"]) fun _ _ _ _ _ _ us hl => match us, hl with | [_, _], _ => rfl
theorem ok_check_pairs : FnOk P w K mg base (L2N.CX P w) 3 T.a_check_pairs T.d_check_pairs ["pairs", "fields"] (spX ⟨K, P, w⟩ mg 2 f_check_pairs) := fn_XN (N := N_check_pairs) (g := g_check_pairs) T.F_check_pairs sc_check_pairs fun cdv A outer s H E hr =>
  (sxs_one (sx_for (passes_of rfl) rfl (di_seq (dv 0)) (dg_tup rfl (dgs_cons (dg_name (i := 2) sc_check_pairs.nd rfl (.inl rfl)) (dgs_cons (dg_name (i := 3) sc_check_pairs.nd rfl (.inl rfl)) dgs_nil))) (sxs_one (sx_if (tx_cmp (op_neD' hr.units) (ex_callN (L2N.takes_of rfl rfl rfl rfl) (ok_type_in T) (hr.mono (by decide)) (by rfl) T.m_type_in T.F_type_in.kp (bd_type_in T) (ax_ok (da_cs (de_ix ix_D (dv 1) de_int (fun _ _ => rfl)) (da_cs (dv 2) da_nl))) (xlen_ok (len_cons (len_cons len_nil)))) (ex_callN (L2N.takes_of rfl rfl rfl rfl) (ok_type_in T) (hr.mono (by decide)) (by rfl) T.m_type_in T.F_type_in.kp (bd_type_in T) (ax_ok (da_cs (de_ix ix_D (dv 1) de_int (fun _ _ => rfl)) (da_cs (dv 3) da_nl))) (xlen_ok (len_cons (len_cons len_nil)))) (nomark _)) (sxs_one (sx_expr (ex_call0N (L2N.takes_of rfl rfl rfl rfl) (ok_differ T) (hr.mono (by decide)) (by rfl) T.m_differ T.F_differ.kp (bd_differ T)))) sxs_nil))))
theorem bd_parts_of : Binds K T.d_parts_of ["expression"] [] := T.F_parts_of.binds (ps := ["expression"]) fun _ _ _ _ _ _ us hl => match us, hl with | [_], _ => rfl
theorem ok_parts_of : FnOk P w K mg base CX0 1 T.a_parts_of T.d_parts_of ["expression"] (spV ⟨K, P, w⟩ 1 f_parts_of) := fn_V (N := N_parts_of) (g := g_parts_of) T.F_parts_of sc_parts_of fun cdv A outer s H E hr =>
  (dss_cons (ds_if (dt_bool (dt_or (dt_cmp (op_eqD' hr.units) (de_ix ix_D (dv 0) de_int (fun _ _ => rfl)) de_str (nomark _)) (dt_or1 (dt_cmp (op_eqD' hr.units) (de_ix ix_D (dv 0) de_int (fun _ _ => rfl)) de_str (nomark _))))) (dss_one (ds_ret (df_de (df_lst da_nl)))) dss_nil)
    (dss_cons (ds_if (dt_cmp (op_eqD' hr.units) (de_ix ix_D (dv 0) de_int (fun _ _ => rfl)) de_str (nomark _)) (dss_one (ds_ret (df_de (df_lst (da_cs (de_ix ix_D (dv 0) de_int (fun _ _ => rfl)) (da_cs (de_ix ix_D (dv 0) de_int (fun _ _ => rfl)) da_nl)))))) dss_nil)
    (dss_one (ds_ret (df_de (df_callTy call_lstD (by rfl) T.z_list bt_list (da_cs (de_slice (dv 0) (do_some de_int) do_none) da_nl)))))))
theorem bd_want : Binds K T.d_want ["types", "wanted"] [] := T.F_want.binds (ps := ["types", "wanted"]) fun _ _ _ _ _ _ us hl => match us, hl with | [_, _], _ => rfl
theorem ok_want : FnOk P w K mg base (L2N.CX P w) 2 T.a_want T.d_want ["types", "wanted"] (spX ⟨K, P, w⟩ mg 2 f_want) := fn_XN (N := N_want) (g := g_want) T.F_want sc_want fun cdv A outer s H E hr =>
  (sxs_one (sx_for (passes_of rfl) rfl (di_seq (dv 0)) (dg_name (i := 2) sc_want.nd rfl (.inl rfl)) (sxs_one (sx_if (tx_ok (dt_not (dt_tru (de_call (ok_agree T) (hr.mono (by decide)) (by rfl) T.m_agree T.F_agree.kp (bd_agree T) (by rfl) (da_cs (dv 2) (da_cs (dv 1) da_nl)) (len_cons (len_cons len_nil)))))) (sxs_one (sx_raiseN rfl T.X_InvalidOperator hr (L2N.takes_of rfl rfl rfl rfl) de_str (by rfl))) sxs_nil))))
theorem bd_type_of_binary : Binds K T.d_type_of_binary ["sign", "types"] [] := T.F_type_of_binary.binds (ps := ["sign", "types"]) fun _ _ _ _ _ _ us hl => match us, hl with | [_, _], _ => rfl
theorem ok_type_of_binary : FnOk P w K mg base (L2N.CX P w) 3 T.a_type_of_binary T.d_type_of_binary ["sign", "types"] (spX ⟨K, P, w⟩ mg 2 f_type_of_binary) := fn_XN (N := N_type_of_binary) (g := g_type_of_binary) T.F_type_of_binary sc_type_of_binary fun cdv A outer s H E hr =>
  (sxs_cons (sx_if (tx_ok (dt_cmp (op_inD' (in65 hr)) (dv 0) (de_tup (da_cs de_str (da_cs de_str (da_cs de_str (da_cs de_str da_nl))))) (by rfl))) (sxs_cons (sx_expr (ex_callN (L2N.takes_of rfl rfl rfl rfl) (ok_want T) (hr.mono (by decide)) (by rfl) T.m_want T.F_want.kp (bd_want T) (ax_ok (da_cs (dv 1) (da_cs de_str da_nl))) (xlen_ok (len_cons (len_cons len_nil)))))
    (sxs_one (sx_ok (ds_ret de_str)))) sxs_nil)
    (sxs_cons (sx_if (tx_ok (dt_cmp (op_inD' (in65 hr)) (dv 0) (de_tup (da_cs de_str (da_cs de_str da_nl))) (by rfl))) (sxs_cons (sx_expr (ex_callN (L2N.takes_of rfl rfl rfl rfl) (ok_want T) (hr.mono (by decide)) (by rfl) T.m_want T.F_want.kp (bd_want T) (ax_ok (da_cs (dv 1) (da_cs de_str da_nl))) (xlen_ok (len_cons (len_cons len_nil)))))
    (sxs_one (sx_ok (ds_ret de_str)))) sxs_nil)
    (sxs_cons (sx_expr (ex_callN (L2N.takes_of rfl rfl rfl rfl) (ok_want T) (hr.mono (by decide)) (by rfl) T.m_want T.F_want.kp (bd_want T) (ax_ok (da_cs (de_slice (dv 1) do_none (do_some de_int)) (da_cs (de_ix ix_D (dv 1) de_int (fun _ _ => rfl)) da_nl))) (xlen_ok (len_cons (len_cons len_nil)))))
    (sxs_one (sx_ok (ds_ret de_str))))))
theorem bd_type_of_value : Binds K T.d_type_of_value ["value"] [] := T.F_type_of_value.binds (ps := ["value"]) fun _ _ _ _ _ _ us hl => match us, hl with | [_], _ => rfl
theorem ok_type_of_value : FnOk P w K mg base CX0 1 T.a_type_of_value T.d_type_of_value ["value"] (spV ⟨K, P, w⟩ 1 f_type_of_value) := fn_V (N := N_type_of_value) (g := g_type_of_value) T.F_type_of_value sc_type_of_value fun cdv A outer s H E hr =>
  (dss_cons (ds_if (dt_cmp op_isD (dv 0) de_non (nomark _)) (dss_one (ds_ret de_non)) dss_nil)
    (dss_cons (ds_if (dt_tru (de_isi T.z_isinstance (by rfl) (by rfl) T.z_bool bt_bool (dv 0))) (dss_one (ds_ret de_str)) dss_nil)
    (dss_cons (ds_if (dt_tru (de_isi T.z_isinstance (by rfl) (by rfl) T.z_int bt_int (dv 0))) (dss_one (ds_ret de_str)) dss_nil)
    (dss_one (ds_ret de_str)))))
theorem bd_type_of : Binds K T.d_type_of ["expression", "fields"] [] := T.F_type_of.binds (ps := ["expression", "fields"]) fun _ _ _ _ _ _ us hl => match us, hl with | [_, _], _ => rfl
theorem okr_type_of : ∀ n : Nat, FnOk P w K mg base (L2N.CX P w) (4 + n) T.a_type_of T.d_type_of ["expression", "fields"] (spX ⟨K, P, w⟩ mg 2 (fuel_type_of n))
  | 0 => fn_XN (N := N_type_of) (g := xFail) T.F_type_of sc_type_of fun cdv A outer s H E hr => sxs_fail
  | n + 1 =>
    have ih := okr_type_of n
    fn_XN (N := N_type_of) (g := g_type_of (fuel_type_of n)) T.F_type_of sc_type_of fun cdv A outer s H E hr0 =>
  have hr : Room (4 + n) _ := hr0
  (sxs_cons (sx_ok (ds_set (i := 2) sc_type_of.nd rfl (.inl rfl) (de_ix ix_D (dv 0) de_int (fun _ _ => rfl))))
    (sxs_cons (sx_if (tx_ok (dt_cmp (op_eqD' hr.units) (dv 2) de_str (nomark _))) (sxs_cons (sx_ok (ds_set (i := 3) sc_type_of.nd rfl (.inl rfl) (de_call (ok_column_index T) (hr.mono (by omega)) (by rfl) T.m_column_index T.F_column_index.kp (bd_column_index T) (by rfl) (da_cs (dv 1) (da_cs (de_ix ix_D (dv 0) de_int (fun _ _ => rfl)) da_nl)) (len_cons (len_cons len_nil)))))
    (sxs_cons (sx_if (tx_ok (dt_cmp op_isD (dv 3) de_non (nomark _))) (sxs_one (sx_raiseN rfl T.X_InvalidOperator hr (L2N.takes_of rfl rfl rfl rfl) (de_bin op_addD de_str (de_ix ix_D (dv 0) de_int (fun _ _ => rfl))) (by rfl))) sxs_nil)
    (sxs_one (sx_ok (ds_ret (de_ix ix_D (de_ix ix_D (dv 1) (dv 3) (fun _ _ => rfl)) de_int (fun _ _ => rfl))))))) sxs_nil)
    (sxs_cons (sx_ok (ds_if (dt_cmp (op_eqD' hr.units) (dv 2) de_str (nomark _)) (dss_one (ds_ret (de_call (ok_type_of_value T) (hr.mono (by omega)) (by rfl) T.m_type_of_value T.F_type_of_value.kp (bd_type_of_value T) (by rfl) (da_cs (de_ix ix_D (dv 0) de_int (fun _ _ => rfl)) da_nl) (len_cons len_nil)))) dss_nil))
    (sxs_cons (sx_lcO (i := 4) (ps_setLcXN (L2N.takes_of rfl rfl rfl rfl) rfl rfl (i := 4) (own := [("part", 5)]) (by rfl) sc_type_of.nd rfl rfl (sw_true rfl rfl rfl (by decide +kernel)) (di_seq (de_call (ok_parts_of T) (hr.mono (by omega)) (by rfl) T.m_parts_of T.F_parts_of.kp (bd_parts_of T) (by rfl) (da_cs (dv 0) da_nl) (len_cons len_nil))) (blkOk_by (own := [("part", 5)]) (N := N_type_of) (sc := defScope s_type_of) (by decide +kernel)) (fun _ _ _ _ _ => (dg_name (i := 5) sc_type_of.nd rfl (by first | exact .inl rfl | exact .inr rfl))) (fun _ _ _ _ _ => dts_nil) (fun _ _ _ _ _ _ _ hp => (ex_callPN hp (ih) (hr.mono (by omega)) (by rfl) T.m_type_of T.F_type_of.kp (bd_type_of T) (ax_ok (da_cs (dv 5) (da_cs (dv 1) da_nl))) (xlen_ok (len_cons (len_cons len_nil)))))))
    (sxs_cons (sx_if (tx_ok (dt_cmp (op_eqD' hr.units) (dv 2) de_str (nomark _))) (sxs_one (sx_ret (ex_callN (L2N.takes_of rfl rfl rfl rfl) (ok_type_of_binary T) (hr.mono (by omega)) (by rfl) T.m_type_of_binary T.F_type_of_binary.kp (bd_type_of_binary T) (ax_ok (da_cs (de_ix ix_D (dv 0) de_int (fun _ _ => rfl)) (da_cs (dz 4) da_nl))) (xlen_ok (len_cons (len_cons len_nil)))))) sxs_nil)
    (sxs_cons (sx_if (tx_ok (dt_cmp (op_eqD' hr.units) (dv 2) de_str (nomark _))) (sxs_cons (sx_expr (ex_callN (L2N.takes_of rfl rfl rfl rfl) (ok_want T) (hr.mono (by omega)) (by rfl) T.m_want T.F_want.kp (bd_want T) (ax_ok (da_cs (de_slice (dz 4) do_none (do_some de_int)) (da_cs de_str da_nl))) (xlen_ok (len_cons (len_cons len_nil)))))
    (sxs_cons (sx_expr (ex_callN (L2N.takes_of rfl rfl rfl rfl) (ok_want T) (hr.mono (by omega)) (by rfl) T.m_want T.F_want.kp (bd_want T) (ax_ok (da_cs (de_slice (dz 4) (do_some de_int) (do_some de_int)) (da_cs (db_ix 4 de_int) da_nl))) (xlen_ok (len_cons (len_cons len_nil)))))
    (sxs_one (sx_ok (ds_ret (de_ifE (dt_cmp op_isD (db_ix 4 de_int) de_non (nomark _)) (db_ix 4 de_int) (db_ix 4 de_int))))))) sxs_nil)
    (sxs_cons (sx_if (tx_ok (dt_cmp (op_eqD' hr.units) (dv 2) de_str (nomark _))) (sxs_cons (sx_expr (ex_callN (L2N.takes_of rfl rfl rfl rfl) (ok_want T) (hr.mono (by omega)) (by rfl) T.m_want T.F_want.kp (bd_want T) (ax_ok (da_cs (dz 4) (da_cs de_str da_nl))) (xlen_ok (len_cons (len_cons len_nil)))))
    (sxs_one (sx_ok (ds_ret de_str)))) sxs_nil)
    (sxs_cons (sx_if (tx_ok (dt_cmp (op_eqD' hr.units) (dv 2) de_str (nomark _))) (sxs_cons (sx_expr (ex_callN (L2N.takes_of rfl rfl rfl rfl) (ok_want T) (hr.mono (by omega)) (by rfl) T.m_want T.F_want.kp (bd_want T) (ax_ok (da_cs (dz 4) (da_cs de_str da_nl))) (xlen_ok (len_cons (len_cons len_nil)))))
    (sxs_one (sx_ok (ds_ret de_str)))) sxs_nil)
    (sxs_one (sx_ok (ds_ret de_str)))))))))))
theorem ok_type_of : FnOk P w K mg base (L2N.CX P w) 10 T.a_type_of T.d_type_of ["expression", "fields"] (spX ⟨K, P, w⟩ mg 2 f_type_of) := (okr_type_of T 6)
theorem bd_mapped : Binds K T.d_mapped ["to", "fields"] [] := T.F_mapped.binds (ps := ["to", "fields"]) fun _ _ _ _ _ _ us hl => match us, hl with | [_, _], _ => rfl
theorem ok_mapped : FnOk P w K mg base (L2N.CX P w) 11 T.a_mapped T.d_mapped ["to", "fields"] (spX ⟨K, P, w⟩ mg 2 f_mapped) := fn_XN (N := N_mapped) (g := g_mapped) T.F_mapped sc_mapped fun cdv A outer s H E hr =>
  (sxs_cons (sx_ok (ds_own (i := 2) sc_mapped.nd rfl (.inl rfl) (df_lst da_nl)))
    (sxs_cons (sx_for (passes_of rfl) rfl (di_seq (dv 0)) (dg_tup rfl (dgs_cons (dg_name (i := 3) sc_mapped.nd rfl (.inl rfl)) (dgs_cons (dg_name (i := 4) sc_mapped.nd rfl (.inl rfl)) dgs_nil))) (sxs_cons (sx_set (i := 5) sc_mapped.nd rfl (.inl rfl) (ex_callN (L2N.takes_of rfl rfl rfl rfl) (ok_type_of T) (hr.mono (by decide)) (by rfl) T.m_type_of T.F_type_of.kp (bd_type_of T) (ax_ok (da_cs (dv 4) (da_cs (dv 1) da_nl))) (xlen_ok (len_cons (len_cons len_nil)))))
    (sxs_one (sx_ok (ds_app 2 (pe_bm PySem.F.plainAttrs_list PySem.F.slot_list_append PySem.F.type_list_append mt_append (pv 2) (pa_cons (de_tup (da_cs (dv 3) (da_cs (de_ifE (dt_cmp op_isD (dv 5) de_non (nomark _)) de_str (dv 5)) da_nl))) pa_nil)))))))
    (sxs_one (sx_ok (ds_ret (dz 2))))))
theorem bd_aggregate_type : Binds K T.d_aggregate_type ["word", "column", "fields"] [] := T.F_aggregate_type.binds (ps := ["word", "column", "fields"]) fun _ _ _ _ _ _ us hl => match us, hl with | [_, _, _], _ => rfl
theorem ok_aggregate_type : FnOk P w K mg base (L2N.CX P w) 3 T.a_aggregate_type T.d_aggregate_type ["word", "column", "fields"] (spX ⟨K, P, w⟩ mg 3 f_aggregate_type) := fn_XN (N := N_aggregate_type) (g := g_aggregate_type) T.F_aggregate_type sc_aggregate_type fun cdv A outer s H E hr =>
  (sxs_cons (sx_ok (ds_if (dt_cmp (op_eqD' hr.units) (dv 0) de_str (nomark _)) (dss_one (ds_ret de_str)) dss_nil))
    (sxs_cons (sx_set (i := 3) sc_aggregate_type.nd rfl (.inl rfl) (ex_callN (L2N.takes_of rfl rfl rfl rfl) (ok_type_in T) (hr.mono (by decide)) (by rfl) T.m_type_in T.F_type_in.kp (bd_type_in T) (ax_ok (da_cs (dv 2) (da_cs (dv 1) da_nl))) (xlen_ok (len_cons (len_cons len_nil)))))
    (sxs_cons (sx_if (tx_ok (dt_bool (dt_and (dt_cmp (op_inD' (in65 hr)) (dv 0) (de_tup (da_cs de_str (da_cs de_str da_nl))) (by rfl)) (dt_and1 (dt_cmp (op_neD' hr.units) (dv 3) de_str (nomark _)))))) (sxs_one (sx_expr (ex_call0N (L2N.takes_of rfl rfl rfl rfl) (ok_differ T) (hr.mono (by decide)) (by rfl) T.m_differ T.F_differ.kp (bd_differ T)))) sxs_nil)
    (sxs_one (sx_ok (ds_ret (dv 3)))))))
theorem bd_with_aggregates : Binds K T.d_with_aggregates ["operator", "fields"] [] := T.F_with_aggregates.binds (ps := ["operator", "fields"]) fun _ _ _ _ _ _ us hl => match us, hl with | [_, _], _ => rfl
theorem ok_with_aggregates : FnOk P w K mg base (L2N.CX P w) 4 T.a_with_aggregates T.d_with_aggregates ["operator", "fields"] (spX ⟨K, P, w⟩ mg 2 f_with_aggregates) := fn_XN (N := N_with_aggregates) (g := g_with_aggregates) T.F_with_aggregates sc_with_aggregates fun cdv A outer s H E hr =>
  (sxs_cons (sx_lcO (i := 2) (ps_setLcXN (L2N.takes_of rfl rfl rfl rfl) rfl rfl (i := 2) (own := [("name", 3)]) (by rfl) sc_with_aggregates.nd rfl rfl (sw_true rfl rfl rfl (by decide +kernel)) (di_seq (de_ix ix_D (dv 0) de_int (fun _ _ => rfl))) (blkOk_by (own := [("name", 3)]) (N := N_with_aggregates) (sc := defScope s_with_aggregates) (by decide +kernel)) (fun _ _ _ _ _ => (dg_name (i := 3) sc_with_aggregates.nd rfl (by first | exact .inl rfl | exact .inr rfl))) (fun _ _ _ _ _ => dts_nil) (fun _ _ _ _ _ _ _ hp => (ex_tup (ax_cs (ex_ok (dv 3)) (ax_cs (ex_callPN hp (ok_type_in T) (hr.mono (by decide)) (by rfl) T.m_type_in T.F_type_in.kp (bd_type_in T) (ax_ok (da_cs (dv 1) (da_cs (dv 3) da_nl))) (xlen_ok (len_cons (len_cons len_nil)))) ax_nl))))))
    (sxs_cons (sx_ok (ds_if (dt_cmp (op_eqD' hr.units) (de_ix ix_D (dv 0) de_int (fun _ _ => rfl)) de_str (nomark _)) (dss_cons (ds_app 2 (pe_bm PySem.F.plainAttrs_list PySem.F.slot_list_append PySem.F.type_list_append mt_append (pv 2) (pa_cons (de_tup (da_cs de_str (da_cs de_str da_nl))) pa_nil)))
    (dss_one (ds_app 2 (pe_bm PySem.F.plainAttrs_list PySem.F.slot_list_append PySem.F.type_list_append mt_append (pv 2) (pa_cons (de_tup (da_cs de_str (da_cs de_str da_nl))) pa_nil))))) dss_nil))
    (sxs_cons (sx_for (passes_of rfl) rfl (di_seq (de_ix ix_D (dv 0) (de_un un_negD de_int) (fun _ _ => rfl))) (dg_tup rfl (dgs_cons (dg_name (i := 3) sc_with_aggregates.nd rfl (.inl rfl)) (dgs_cons (dg_name (i := 4) sc_with_aggregates.nd rfl (.inl rfl)) (dgs_cons (dg_name (i := 5) sc_with_aggregates.nd rfl (.inl rfl)) dgs_nil)))) (sxs_one (sx_app 2 (pe_bm PySem.F.plainAttrs_list PySem.F.slot_list_append PySem.F.type_list_append mt_append (pv 2) (pa_cons (ex_tup (ax_cs (ex_ok (dv 3)) (ax_cs (ex_callN (L2N.takes_of rfl rfl rfl rfl) (ok_aggregate_type T) (hr.mono (by decide)) (by rfl) T.m_aggregate_type T.F_aggregate_type.kp (bd_aggregate_type T) (ax_ok (da_cs (dv 4) (da_cs (dv 5) (da_cs (dv 1) da_nl)))) (xlen_ok (len_cons (len_cons (len_cons len_nil))))) ax_nl))) pa_nil)))))
    (sxs_one (sx_ok (ds_ret (dz 2)))))))
theorem bd_output_fields : Binds K T.d_output_fields ["operator", "fields"] [] := T.F_output_fields.binds (ps := ["operator", "fields"]) fun _ _ _ _ _ _ us hl => match us, hl with | [_, _], _ => rfl
theorem ok_output_fields : FnOk P w K mg base (L2N.CX P w) 12 T.a_output_fields T.d_output_fields ["operator", "fields"] (spX ⟨K, P, w⟩ mg 2 f_output_fields) := fn_XN (N := N_output_fields) (g := g_output_fields) T.F_output_fields sc_output_fields fun cdv A outer s H E hr =>
  (sxs_cons (sx_ok (ds_set (i := 2) sc_output_fields.nd rfl (.inl rfl) (de_ix ix_D (dv 0) de_int (fun _ _ => rfl))))
    (sxs_cons (sx_if (tx_ok (dt_cmp (op_eqD' hr.units) (dv 2) de_str (nomark _))) (sxs_cons (sx_if (tx_not (tx_val (ex_callV (ok_agree T) (hr.mono (by decide)) (by rfl) T.m_agree T.F_agree.kp (bd_agree T) (ax_cs (ex_callN (L2N.takes_of rfl rfl rfl rfl) (ok_type_of T) (hr.mono (by decide)) (by rfl) T.m_type_of T.F_type_of.kp (bd_type_of T) (ax_ok (da_cs (de_ix ix_D (dv 0) de_int (fun _ _ => rfl)) (da_cs (de_ix ix_D (dv 1) de_int (fun _ _ => rfl)) da_nl))) (xlen_ok (len_cons (len_cons len_nil)))) (ax_cs (ex_ok de_str) ax_nl)) (xlen_cons (xlen_cons xlen_nil))))) (sxs_one (sx_expr (ex_call0N (L2N.takes_of rfl rfl rfl rfl) (ok_differ T) (hr.mono (by decide)) (by rfl) T.m_differ T.F_differ.kp (bd_differ T)))) sxs_nil)
    (sxs_one (sx_ok (ds_ret (df_de (df_callTy call_lstD (by rfl) T.z_list bt_list (da_cs (de_ix ix_D (dv 1) de_int (fun _ _ => rfl)) da_nl))))))) sxs_nil)
    (sxs_cons (sx_if (tx_ok (dt_cmp (op_eqD' hr.units) (dv 2) de_str (nomark _))) (sxs_one (sx_ret (ex_callN (L2N.takes_of rfl rfl rfl rfl) (ok_mapped T) (hr.mono (by decide)) (by rfl) T.m_mapped T.F_mapped.kp (bd_mapped T) (ax_ok (da_cs (de_ix ix_D (dv 0) de_int (fun _ _ => rfl)) (da_cs (de_ix ix_D (dv 1) de_int (fun _ _ => rfl)) da_nl))) (xlen_ok (len_cons (len_cons len_nil)))))) sxs_nil)
    (sxs_cons (sx_if (tx_ok (dt_cmp (op_eqD' hr.units) (dv 2) de_str (nomark _))) (sxs_cons (sx_if (tx_ok (dt_cmp (op_neD' hr.units) (df_de (df_lc (pe_lc (own := [("name", 3), ("kind", 4)]) (by rfl) sc_output_fields.nd (di_seq (de_ix ix_D (dv 1) de_int (fun _ _ => rfl))) (blkOk_by (own := [("name", 3), ("kind", 4)]) (N := N_output_fields) (sc := defScope s_output_fields) (by decide +kernel)) (fun _ _ _ _ _ => (dg_tup rfl (dgs_cons (dg_name (i := 3) sc_output_fields.nd rfl (by first | exact .inl rfl | exact .inr rfl)) (dgs_cons (dg_name (i := 4) sc_output_fields.nd rfl (by first | exact .inl rfl | exact .inr rfl)) dgs_nil)))) (fun _ _ _ _ _ => dts_nil) (fun _ _ _ _ _ => (dv 4))))) (df_de (df_lc (pe_lc (own := [("name", 3), ("kind", 4)]) (by rfl) sc_output_fields.nd (di_seq (de_ix ix_D (dv 1) de_int (fun _ _ => rfl))) (blkOk_by (own := [("name", 3), ("kind", 4)]) (N := N_output_fields) (sc := defScope s_output_fields) (by decide +kernel)) (fun _ _ _ _ _ => (dg_tup rfl (dgs_cons (dg_name (i := 3) sc_output_fields.nd rfl (by first | exact .inl rfl | exact .inr rfl)) (dgs_cons (dg_name (i := 4) sc_output_fields.nd rfl (by first | exact .inl rfl | exact .inr rfl)) dgs_nil)))) (fun _ _ _ _ _ => dts_nil) (fun _ _ _ _ _ => (dv 4))))) (nomark _))) (sxs_one (sx_expr (ex_call0N (L2N.takes_of rfl rfl rfl rfl) (ok_differ T) (hr.mono (by decide)) (by rfl) T.m_differ T.F_differ.kp (bd_differ T)))) sxs_nil)
    (sxs_one (sx_ok (ds_ret (df_de (df_callTy call_lstD (by rfl) T.z_list bt_list (da_cs (de_ix ix_D (dv 1) de_int (fun _ _ => rfl)) da_nl))))))) sxs_nil)
    (sxs_cons (sx_if (tx_ok (dt_cmp (op_inD' (in65 hr)) (dv 2) (de_tup (da_cs de_str (da_cs de_str da_nl))) (by rfl))) (sxs_one (sx_ret (ex_callN (L2N.takes_of rfl rfl rfl rfl) (ok_with_aggregates T) (hr.mono (by decide)) (by rfl) T.m_with_aggregates T.F_with_aggregates.kp (bd_with_aggregates T) (ax_ok (da_cs (dv 0) (da_cs (de_ix ix_D (dv 1) de_int (fun _ _ => rfl)) da_nl))) (xlen_ok (len_cons (len_cons len_nil)))))) sxs_nil)
    (sxs_cons (sx_if (tx_ok (dt_cmp (op_inD' (in65 hr)) (dv 2) (de_tup (da_cs de_str (da_cs de_str (da_cs de_str da_nl)))) (by rfl))) (sxs_cons (sx_expr (ex_callN (L2N.takes_of rfl rfl rfl rfl) (ok_check_pairs T) (hr.mono (by decide)) (by rfl) T.m_check_pairs T.F_check_pairs.kp (bd_check_pairs T) (ax_ok (da_cs (de_ix ix_D (dv 0) de_int (fun _ _ => rfl)) (da_cs (dv 1) da_nl))) (xlen_ok (len_cons (len_cons len_nil)))))
    (sxs_one (sx_ok (ds_ret (de_bin op_addD (df_de (df_callTy call_lstD (by rfl) T.z_list bt_list (da_cs (de_ix ix_D (dv 1) de_int (fun _ _ => rfl)) da_nl))) (df_de (df_callTy call_lstD (by rfl) T.z_list bt_list (da_cs (de_ix ix_D (dv 1) de_int (fun _ _ => rfl)) da_nl)))))))) sxs_nil)
    (sxs_one (sx_ok (ds_ret (df_de (df_callTy call_lstD (by rfl) T.z_list bt_list (da_cs (de_ix ix_D (dv 1) de_int (fun _ _ => rfl)) da_nl))))))))))))
theorem bd_output_kind : Binds K T.d_output_kind ["operator", "kinds"] [] := T.F_output_kind.binds (ps := ["operator", "kinds"]) fun _ _ _ _ _ _ us hl => match us, hl with | [_, _], _ => rfl
theorem ok_output_kind : FnOk P w K mg base CX0 1 T.a_output_kind T.d_output_kind ["operator", "kinds"] (spV ⟨K, P, w⟩ 2 f_output_kind) := fn_V (N := N_output_kind) (g := g_output_kind) T.F_output_kind sc_output_kind fun cdv A outer s H E hr =>
  (dss_cons (ds_set (i := 2) sc_output_kind.nd rfl (.inl rfl) (de_ix ix_D (dv 0) de_int (fun _ _ => rfl)))
    (dss_cons (ds_if (dt_cmp (op_inD' (in65 hr)) (dv 2) (de_tup (da_cs de_str (da_cs de_str da_nl))) (by rfl)) (dss_one (ds_ret (de_ix ix_D (dv 1) de_int (fun _ _ => rfl)))) dss_nil)
    (dss_cons (ds_if (dt_cmp (op_eqD' hr.units) (dv 2) de_str (nomark _)) (dss_one (ds_ret (de_ifE (dt_cmp (op_eqD' hr.units) (dv 1) (df_de (df_lst (da_cs de_str (da_cs de_str da_nl)))) (nomark _)) de_str de_str))) dss_nil)
    (dss_cons (ds_if (dt_cmp (op_inD' (in65 hr)) (dv 2) (de_tup (da_cs de_str (da_cs de_str (da_cs de_str (da_cs de_str da_nl))))) (by rfl)) (dss_one (ds_ret de_str)) dss_nil)
    (dss_one (ds_ret de_str))))))
theorem bd_check_operator : Binds K T.d_check_operator ["operator", "inputs"] [] := T.F_check_operator.binds (ps := ["operator", "inputs"]) fun _ _ _ _ _ _ us hl => match us, hl with | [_, _], _ => rfl
theorem ok_check_operator : FnOk P w K mg base (L2N.CX P w) 13 T.a_check_operator T.d_check_operator ["operator", "inputs"] (spX ⟨K, P, w⟩ mg 2 f_check_operator) := fn_XN (N := N_check_operator) (g := g_check_operator) T.F_check_operator sc_check_operator fun cdv A outer s H E hr =>
  (sxs_cons (sx_ok (ds_lcO (i := 2) (ps_setLc (i := 2) (own := [("side", 8)]) (by rfl) sc_check_operator.nd rfl rfl (sw_true rfl rfl rfl (by decide +kernel)) (di_seq (dv 1)) (blkOk_by (own := [("side", 8)]) (N := N_check_operator) (sc := defScope s_check_operator) (by decide +kernel)) (fun _ _ _ _ _ => (dg_name (i := 8) sc_check_operator.nd rfl (by first | exact .inl rfl | exact .inr rfl))) (fun _ _ _ _ _ => dts_nil) (fun _ _ _ _ _ => (de_ix ix_D (dv 8) de_int (fun _ _ => rfl))))))
    (sxs_cons (sx_ok (ds_lcO (i := 3) (ps_setLc (i := 3) (own := [("side", 8)]) (by rfl) sc_check_operator.nd rfl rfl (sw_true rfl rfl rfl (by decide +kernel)) (di_seq (dv 1)) (blkOk_by (own := [("side", 8)]) (N := N_check_operator) (sc := defScope s_check_operator) (by decide +kernel)) (fun _ _ _ _ _ => (dg_name (i := 8) sc_check_operator.nd rfl (by first | exact .inl rfl | exact .inr rfl))) (fun _ _ _ _ _ => dts_nil) (fun _ _ _ _ _ => (de_ix ix_D (dv 8) de_int (fun _ _ => rfl))))))
    (sxs_cons (sx_expr (ex_callN (L2N.takes_of rfl rfl rfl rfl) (ok_check_columns T) (hr.mono (by decide)) (by rfl) T.m_check_columns T.F_check_columns.kp (bd_check_columns T) (ax_ok (da_cs (dv 0) (da_cs (dz 2) da_nl))) (xlen_ok (len_cons (len_cons len_nil)))))
    (sxs_cons (sx_set (i := 4) sc_check_operator.nd rfl (.inl rfl) (ex_callN (L2N.takes_of rfl rfl rfl rfl) (ok_output_fields T) (hr.mono (by decide)) (by rfl) T.m_output_fields T.F_output_fields.kp (bd_output_fields T) (ax_ok (da_cs (dv 0) (da_cs (dz 2) da_nl))) (xlen_ok (len_cons (len_cons len_nil)))))
    (sxs_cons (sx_expr (ex_callN (L2N.takes_of rfl rfl rfl rfl) (ok_check_kinds T) (hr.mono (by decide)) (by rfl) T.m_check_kinds T.F_check_kinds.kp (bd_check_kinds T) (ax_ok (da_cs (dv 0) (da_cs (dz 3) da_nl))) (xlen_ok (len_cons (len_cons len_nil)))))
    (sxs_cons (sx_ok (ds_own (i := 5) sc_check_operator.nd rfl (.inl rfl) (df_lst da_nl)))
    (sxs_cons (sx_for (passes_of rfl) rfl (di_seq (dv 4)) (dg_tup rfl (dgs_cons (dg_name (i := 6) sc_check_operator.nd rfl (.inl rfl)) (dgs_cons (dg_name (i := 7) sc_check_operator.nd rfl (.inl rfl)) dgs_nil))) (sxs_cons (sx_if (tx_ok (dbt_in 5 (in65 hr) (dv 6))) (sxs_one (sx_raiseN rfl T.X_InvalidOperator hr (L2N.takes_of rfl rfl rfl rfl) (de_bin op_addD (dv 6) de_str) (by rfl))) sxs_nil)
    (sxs_one (sx_ok (ds_app 5 (pe_bm PySem.F.plainAttrs_list PySem.F.slot_list_append PySem.F.type_list_append mt_append (pv 5) (pa_cons (dv 6) pa_nil)))))))
    (sxs_cons (sx_if (tx_ok (dt_cmp op_gtD (de_callB call_lenD (by rfl) T.z_len bb_len (da_cs (dv 4) da_nl)) (de_glob (by rfl) T.c_MOST_FIELDS) (nomark _))) (sxs_one (sx_raiseN rfl T.X_InvalidOperator hr (L2N.takes_of rfl rfl rfl rfl) de_str (by rfl))) sxs_nil)
    (sxs_one (sx_ok (ds_ret (de_tup (da_cs (de_callTy call_tupD (by rfl) T.z_tuple bt_tuple (da_cs (dv 4) da_nl)) (da_cs (de_call (ok_output_kind T) (hr.mono (by decide)) (by rfl) T.m_output_kind T.F_output_kind.kp (bd_output_kind T) (by rfl) (da_cs (dv 0) (da_cs (dz 3) da_nl)) (len_cons (len_cons len_nil))) da_nl))))))))))))))
theorem bd_sides_of : Binds K T.d_sides_of ["operator"] [] := T.F_sides_of.binds (ps := ["operator"]) fun _ _ _ _ _ _ us hl => match us, hl with | [_], _ => rfl
theorem ok_sides_of : FnOk P w K mg base CX0 1 T.a_sides_of T.d_sides_of ["operator"] (spV ⟨K, P, w⟩ 1 f_sides_of) := fn_V (N := N_sides_of) (g := g_sides_of) T.F_sides_of sc_sides_of fun cdv A outer s H E hr =>
  (dss_cons (ds_if (dt_cmp (op_inD' (in65 hr)) (de_ix ix_D (dv 0) de_int (fun _ _ => rfl)) (de_globT (by rfl) T.c_TWO_SIDES) (by rfl)) (dss_one (ds_ret de_int)) dss_nil)
    (dss_one (ds_ret de_int)))
theorem bd__law_drawn_plan : Binds K T.d__law_drawn_plan ["rows", "at", "many"] [] := T.F__law_drawn_plan.binds (ps := ["rows", "at", "many"]) fun _ _ _ _ _ _ us hl => match us, hl with | [_, _, _], _ => rfl
theorem ok__law_drawn_plan : FnOk P w K mg base CX0 14 T.a__law_drawn_plan T.d__law_drawn_plan ["rows", "at", "many"] (spV ⟨K, P, w⟩ 3 f__law_drawn_plan) := fn_V (N := N__law_drawn_plan) (g := g__law_drawn_plan) T.F__law_drawn_plan sc__law_drawn_plan fun cdv A outer s H E hr =>
  (dss_cons (ds_own (i := 3) sc__law_drawn_plan.nd rfl (.inl rfl) (df_lst (da_cs (de_tup (da_cs (de_tup (da_cs de_str (da_cs de_str (da_cs (de_call0 (ok__law_s_fields T) (hr.mono (by decide)) (by rfl) T.m__law_s_fields T.F__law_s_fields.kp (bd__law_s_fields T)) da_nl)))) (da_cs (de_tup da_nl) da_nl))) (da_cs (de_tup (da_cs (de_tup (da_cs de_str (da_cs de_str (da_cs (de_call0 (ok__law_r_fields T) (hr.mono (by decide)) (by rfl) T.m__law_r_fields T.F__law_r_fields.kp (bd__law_r_fields T)) da_nl)))) (da_cs (de_tup da_nl) da_nl))) da_nl))))
    (dss_cons (ds_own (i := 4) sc__law_drawn_plan.nd rfl (by first | exact .inr rfl | exact .inl rfl) (df_lst (da_cs (de_tup (da_cs (de_call0 (ok__law_s_fields T) (hr.mono (by decide)) (by rfl) T.m__law_s_fields T.F__law_s_fields.kp (bd__law_s_fields T)) (da_cs de_str da_nl))) (da_cs (de_tup (da_cs (de_call0 (ok__law_r_fields T) (hr.mono (by decide)) (by rfl) T.m__law_r_fields T.F__law_r_fields.kp (bd__law_r_fields T)) (da_cs de_str da_nl))) da_nl))))
    (dss_cons (ds_for PassesOwn.never rfl (di_rng1 (by rfl) T.z_range (da_cs (dv 2) da_nl)) (dg_name (i := 5) sc__law_drawn_plan.nd rfl (.inl rfl)) (dss_cons (ds_set (i := 6) sc__law_drawn_plan.nd rfl (.inl rfl) (de_ix ix_D (dv 0) (de_bin op_modD (de_callTy call_intD (by rfl) T.z_int bt_int (da_cs (de_bin op_addD (dv 1) (dv 5)) da_nl)) (de_callB call_lenD (by rfl) T.z_len bb_len (da_cs (dv 0) da_nl))) (fun _ _ => rfl)))
    (dss_cons (ds_set (i := 7) sc__law_drawn_plan.nd rfl (.inl rfl) (de_bin op_subD (de_bin op_subD (db_call 3 call_lenD (by rfl) T.z_len bb_len) de_int) (de_bin op_mulD (de_bin op_modD (de_callTy call_intD (by rfl) T.z_int bt_int (da_cs (de_bin op_fdivD (dv 6) de_int) da_nl)) de_int) (de_bin op_modD (de_callTy call_intD (by rfl) T.z_int bt_int (da_cs (de_bin op_fdivD (dv 6) de_int) da_nl)) (db_call 3 call_lenD (by rfl) T.z_len bb_len)))))
    (dss_cons (ds_set (i := 8) sc__law_drawn_plan.nd rfl (.inl rfl) (de_bin op_modD (de_callTy call_intD (by rfl) T.z_int bt_int (da_cs (de_bin op_fdivD (dv 6) de_int) da_nl)) (db_call 3 call_lenD (by rfl) T.z_len bb_len)))
    (dss_cons (ds_set (i := 9) sc__law_drawn_plan.nd rfl (.inl rfl) (de_call (ok__law_operator T) (hr.mono (by decide)) (by rfl) T.m__law_operator T.F__law_operator.kp (bd__law_operator T) (by rfl) (da_cs (de_ix ix_D (db_ix 4 (dv 7)) de_int (fun _ _ => rfl)) (da_cs (de_ix ix_D (db_ix 4 (dv 8)) de_int (fun _ _ => rfl)) (da_cs (de_bin op_fdivD (dv 6) de_int) da_nl))) (len_cons (len_cons (len_cons len_nil)))))
    (dss_cons (ds_set (i := 10) sc__law_drawn_plan.nd rfl (.inl rfl) (de_ifE (dt_cmp (op_eqD' hr.units) (de_call (ok_sides_of T) (hr.mono (by decide)) (by rfl) T.m_sides_of T.F_sides_of.kp (bd_sides_of T) (by rfl) (da_cs (dv 9) da_nl) (len_cons len_nil)) de_int (nomark _)) (de_tup (da_cs (dv 7) da_nl)) (de_tup (da_cs (dv 7) (da_cs (dv 8) da_nl)))))
    (dss_cons (ds_noX (sx_tryB rfl rfl ⟨by rfl, by decide, .inl T.X_InvalidOperator.gC⟩ Dn.takes0 (fun W pn xe tk hpo => (sxs_one (sx_set (i := 11) sc__law_drawn_plan.nd rfl (.inl rfl) (ex_callN (takesN tk) (ok_check_operator T) (hr.mono (by decide)) (by rfl) T.m_check_operator T.F_check_operator.kp (bd_check_operator T) (ax_ok (da_cs (dv 9) (da_cs (df_de (df_lc (pe_lc (own := [("number", 12)]) (by rfl) sc__law_drawn_plan.nd (di_seq (dv 10)) (blkOk_by (own := [("number", 12)]) (N := N__law_drawn_plan) (sc := defScope s__law_drawn_plan) (by decide +kernel)) (fun _ _ _ _ _ => (dg_name (i := 12) sc__law_drawn_plan.nd rfl (by first | exact .inl rfl | exact .inr rfl))) (fun _ _ _ _ _ => dts_nil) (fun _ _ _ _ _ => (db_ix 4 (dv 12)))))) da_nl))) (xlen_ok (len_cons (len_cons len_nil))))))) (HB.yes T.X_InvalidOperator.gC T.ex_InvalidOperator_InvalidOperator (fun m a oe pn => (dss_one (ds_set (i := 11) sc__law_drawn_plan.nd rfl (.inl rfl) de_non))) HB.nil)))
    (dss_one (ds_if (dt_cmp op_isntD (dv 11) de_non (nomark _)) (dss_cons (ds_app 3 (pe_bm PySem.F.plainAttrs_list PySem.F.slot_list_append PySem.F.type_list_append mt_append (pv 3) (pa_cons (de_tup (da_cs (dv 9) (da_cs (dv 10) da_nl))) pa_nil)))
    (dss_one (ds_app 4 (pe_bm PySem.F.plainAttrs_list PySem.F.slot_list_append PySem.F.type_list_append mt_append (pv 4) (pa_cons (dv 11) pa_nil))))) dss_nil)))))))))
    (dss_one (ds_ret (de_callTy call_tupD (by rfl) T.z_tuple bt_tuple (da_cs (dz 3) da_nl)))))))
theorem bd__law_rows : Binds K T.d__law_rows ["script", "count"] [] := T.F__law_rows.binds (ps := ["script", "count"]) fun _ _ _ _ _ _ us hl => match us, hl with | [_, _], _ => rfl
theorem ok__law_rows : FnOk P w K mg base CX0 1 T.a__law_rows T.d__law_rows ["script", "count"] (spV ⟨K, P, w⟩ 2 f__law_rows) := fn_V (N := N__law_rows) (g := g__law_rows) T.F__law_rows sc__law_rows fun cdv A outer s H E hr =>
  (dss_cons (ds_own (i := 2) sc__law_rows.nd rfl (.inl rfl) (df_lst da_nl))
    (dss_cons (ds_for PassesOwn.never rfl (di_rng1 (by rfl) T.z_range (da_cs (dv 1) da_nl)) (dg_name (i := 3) sc__law_rows.nd rfl (.inl rfl)) (dss_cons (ds_set (i := 4) sc__law_rows.nd rfl (.inl rfl) de_int)
    (dss_cons (ds_if (dt_cmp op_gtD (de_callB call_lenD (by rfl) T.z_len bb_len (da_cs (dv 0) da_nl)) de_int (nomark _)) (dss_one (ds_set (i := 4) sc__law_rows.nd rfl (.inl rfl) (de_callTy call_intD (by rfl) T.z_int bt_int (da_cs (de_ix ix_D (dv 0) (de_bin op_modD (de_callTy call_intD (by rfl) T.z_int bt_int (da_cs (dv 3) da_nl)) (de_callB call_lenD (by rfl) T.z_len bb_len (da_cs (dv 0) da_nl))) (fun _ _ => rfl)) da_nl)))) dss_nil)
    (dss_cons (ds_if (dt_cmp (op_ltD hr.units) (dv 4) de_int (nomark _)) (dss_one (ds_set (i := 4) sc__law_rows.nd rfl (.inl rfl) (de_bin op_subD de_int (de_bin op_mulL de_int (dv 4))))) dss_nil)
    (dss_cons (ds_if (dt_bool (dt_or (dt_cmp op_geD (dv 3) (de_callB call_lenD (by rfl) T.z_len bb_len (da_cs (dv 0) da_nl)) (nomark _)) (dt_or1 (dt_cmp (op_ltD hr.units) (dv 4) de_int (nomark _))))) (dss_cons (ds_set (i := 4) sc__law_rows.nd rfl (.inl rfl) (de_bin op_modD (de_callTy call_intD (by rfl) T.z_int bt_int (da_cs (de_bin op_addD (de_bin op_mulS (de_bin op_addD (de_bin op_addD (dv 4) (de_bin op_mulL de_int (dv 3))) de_int) de_int) (de_bin op_mulS (de_bin op_mulD (dv 3) (dv 3)) de_int)) da_nl)) de_int))
    (dss_one (ds_set (i := 4) sc__law_rows.nd rfl (.inl rfl) (de_bin op_modD (de_callTy call_intD (by rfl) T.z_int bt_int (da_cs (de_bin op_mulS (de_bin op_addD (de_bin op_addD (dv 4) (de_bin op_mulL de_int (dv 3))) de_int) de_int) da_nl)) de_int)))) dss_nil)
    (dss_one (ds_app 2 (pe_bm PySem.F.plainAttrs_list PySem.F.slot_list_append PySem.F.type_list_append mt_append (pv 2) (pa_cons (dv 4) pa_nil)))))))))
    (dss_one (ds_ret (dz 2)))))
theorem bd_check_inputs : Binds K T.d_check_inputs ["plan", "number"] [] := T.F_check_inputs.binds (ps := ["plan", "number"]) fun _ _ _ _ _ _ us hl => match us, hl with | [_, _], _ => rfl
theorem ok_check_inputs : FnOk P w K mg base (L2.CX P w) 2 T.a_check_inputs T.d_check_inputs ["plan", "number"] (spX ⟨K, P, w⟩ mg 2 f_check_inputs) := fn_X (N := N_check_inputs) (g := g_check_inputs) T.F_check_inputs sc_check_inputs fun cdv A outer s H E hr =>
  (sxs_cons (sx_ok (ds_asg (ps_asg (de_ix ix_D (dv 0) (dv 1) (fun _ _ => rfl)) (dg_tup rfl (dgs_cons (dg_name (i := 2) sc_check_inputs.nd rfl (.inl rfl)) (dgs_cons (dg_name (i := 3) sc_check_inputs.nd rfl (.inl rfl)) dgs_nil))))))
    (sxs_cons (sx_ok (ds_set (i := 4) sc_check_inputs.nd rfl (.inl rfl) (de_ifE (dt_cmp (op_eqD' hr.units) (de_ix ix_D (dv 2) de_int (fun _ _ => rfl)) de_str (nomark _)) de_int (de_call (ok_sides_of T) (hr.mono (by decide)) (by rfl) T.m_sides_of T.F_sides_of.kp (bd_sides_of T) (by rfl) (da_cs (dv 2) da_nl) (len_cons len_nil)))))
    (sxs_cons (sx_ok (ds_lcO (i := 5) (ps_setLc (i := 5) (own := [("other", 6)]) (by rfl) sc_check_inputs.nd rfl rfl (sw_true rfl rfl rfl (by decide +kernel)) (di_seq (dv 3)) (blkOk_by (own := [("other", 6)]) (N := N_check_inputs) (sc := defScope s_check_inputs) (by decide +kernel)) (fun _ _ _ _ _ => (dg_name (i := 6) sc_check_inputs.nd rfl (by first | exact .inl rfl | exact .inr rfl))) (fun _ _ _ _ _ => (dts_one (dt_chain op_leD (op_ltD hr.units) de_int (dv 6) (dv 1)))) (fun _ _ _ _ _ => (dv 6)))))
    (sxs_one (sx_if (tx_ok (dt_bool (dt_or (dt_cmp (op_neD' hr.units) (de_callB call_lenD (by rfl) T.z_len bb_len (da_cs (dv 3) da_nl)) (dv 4) (nomark _)) (dt_or1 (dt_cmp (op_neD' hr.units) (db_call 5 call_lenD (by rfl) T.z_len bb_len) (dv 4) (nomark _)))))) (sxs_one (sx_raise rfl T.X_InvalidPlan hr (L2.takes_of rfl rfl rfl rfl) (de_js (.cons de_str (.cons (de_fmt (dv 1)) (.cons de_str .nil)))) (by rfl))) sxs_nil)))))
theorem bd_output_of : Binds K T.d_output_of ["plan", "number", "outputs"] [] := T.F_output_of.binds (ps := ["plan", "number", "outputs"]) fun _ _ _ _ _ _ us hl => match us, hl with | [_, _, _], _ => rfl
theorem ok_output_of : FnG P w K mg base (L2.CX P w) 14 T.a_output_of T.d_output_of ["plan", "number", "outputs"] (spXO ⟨K, P, w⟩ mg 2 f_output_of) := fn_XOG (N := N_output_of) (g := g_output_of) T.F_output_of sc_output_of rfl (by decide) fun cdv A outer s H E hgu hr =>
  (sxs_cons (sx_ok (ds_asg (ps_asg (de_ix ix_D (dv 0) (dv 1) (fun _ _ => rfl)) (dg_tup rfl (dgs_cons (dg_name (i := 3) sc_output_of.nd rfl (.inl rfl)) (dgs_cons (dg_name (i := 4) sc_output_of.nd rfl (.inl rfl)) dgs_nil))))))
    (sxs_cons (sx_if (tx_ok (dt_cmp (op_eqD' hr.units) (de_ix ix_D (dv 3) de_int (fun _ _ => rfl)) de_str (nomark _))) (sxs_cons (sx_for (passes_of rfl) rfl (di_rng1 (by rfl) T.z_range (da_cs (dv 1) da_nl)) (dg_name (i := 5) sc_output_of.nd rfl (.inl rfl)) (sxs_cons (sx_ok (ds_set (i := 6) sc_output_of.nd rfl (.inl rfl) (de_ix ix_D (de_ix ix_D (dv 0) (dv 5) (fun _ _ => rfl)) de_int (fun _ _ => rfl))))
    (sxs_one (sx_if (tx_ok (dt_bool (dt_and (dt_cmp (op_eqD' hr.units) (de_ix ix_D (dv 6) de_int (fun _ _ => rfl)) de_str (nomark _)) (dt_and (dt_cmp (op_eqD' hr.units) (de_ix ix_D (dv 6) de_int (fun _ _ => rfl)) (de_ix ix_D (dv 3) de_int (fun _ _ => rfl)) (nomark _)) (dt_and1 (dt_cmp (op_neD' hr.units) (de_callB (call_reprD hgu (in65 hr)) (by rfl) T.z_repr bb_repr (da_cs (de_ix ix_D (dv 6) de_int (fun _ _ => rfl)) da_nl)) (de_callB (call_reprD hgu (in65 hr)) (by rfl) T.z_repr bb_repr (da_cs (de_ix ix_D (dv 3) de_int (fun _ _ => rfl)) da_nl)) (nomark _))))))) (sxs_one (sx_raise rfl T.X_InvalidPlan hr (L2.takes_of rfl rfl rfl rfl) (de_js (.cons de_str (.cons (de_fmt (dv 1)) (.cons de_str .nil)))) (by rfl))) sxs_nil))))
    (sxs_one (sx_ok (ds_ret (de_tup (da_cs (de_ix ix_D (dv 3) de_int (fun _ _ => rfl)) (da_cs de_str da_nl))))))) sxs_nil)
    (sxs_one (sx_tryR1 (i := 7) rfl rfl sc_output_of.nd rfl rfl ⟨by rfl, by decide, .inl T.X_InvalidOperator.gC⟩ (L2.takes_of rfl rfl rfl rfl) (fun _ _ _ _ _ h => h) (fun W pn xe tk hpo => (sxs_one (sx_ret (ex_callN tk (ok_check_operator T) (hr.mono (by decide)) (by rfl) T.m_check_operator T.F_check_operator.kp (bd_check_operator T) (ax_ok (da_cs (dv 3) (da_cs (df_de (df_lc (pe_lc (own := [("other", 5)]) (by rfl) sc_output_of.nd (di_seq (dv 4)) (blkOk_by (own := [("other", 5)]) (N := N_output_of) (sc := defScope s_output_of) (by decide +kernel)) (fun _ _ _ _ _ => (dg_name (i := 5) sc_output_of.nd rfl (by first | exact .inl rfl | exact .inr rfl))) (fun _ _ _ _ _ => dts_nil) (fun _ _ _ _ _ => (db_ix 2 (dv 5)))))) da_nl))) (xlen_ok (len_cons (len_cons len_nil))))))) T.X_InvalidOperator.gC T.ex_InvalidOperator_InvalidOperator T.X_InvalidPlan hr (by rfl) (fun m a dd oe pn hz hf => (me_js (.cons (me_ok de_str) (.cons (me_fmt (me_ok (dv 1))) (.cons (me_ok de_str) (.cons (me_fmt (me_msg T.X_InvalidOperator hz hf)) .nil))))))))))
theorem bd_fields_of : Binds K T.d_fields_of ["plan"] [] := T.F_fields_of.binds (ps := ["plan"]) fun _ _ _ _ _ _ us hl => match us, hl with | [_], _ => rfl
theorem ok_fields_of : FnG P w K mg base (L2.CX P w) 15 T.a_fields_of T.d_fields_of ["plan"] (spX ⟨K, P, w⟩ mg 1 f_fields_of) := fn_XG (N := N_fields_of) (g := g_fields_of) T.F_fields_of sc_fields_of fun cdv A outer s H E hgu hr =>
  (sxs_cons (sx_if (tx_ok (dt_cmp (op_eqD' hr.units) (de_callB call_lenD (by rfl) T.z_len bb_len (da_cs (dv 0) da_nl)) de_int (nomark _))) (sxs_one (sx_raise rfl T.X_InvalidPlan hr (L2.takes_of rfl rfl rfl rfl) de_str (by rfl))) sxs_nil)
    (sxs_cons (sx_if (tx_ok (dt_cmp op_gtD (de_callB call_lenD (by rfl) T.z_len bb_len (da_cs (dv 0) da_nl)) (de_glob (by rfl) T.c_MOST_NODES) (nomark _))) (sxs_one (sx_raise rfl T.X_InvalidPlan hr (L2.takes_of rfl rfl rfl rfl) de_str (by rfl))) sxs_nil)
    (sxs_cons (sx_ok (ds_own (i := 1) sc_fields_of.nd rfl (.inl rfl) (df_lst da_nl)))
    (sxs_cons (sx_for (passes_of rfl) rfl (di_rng1 (by rfl) T.z_range (da_cs (de_callB call_lenD (by rfl) T.z_len bb_len (da_cs (dv 0) da_nl)) da_nl)) (dg_name (i := 2) sc_fields_of.nd rfl (.inl rfl)) (sxs_cons (sx_expr (ex_call (L2.takes_of rfl rfl rfl rfl) (ok_check_inputs T) (hr.mono (by decide)) (by rfl) T.m_check_inputs T.F_check_inputs.kp (bd_check_inputs T) (ax_ok (da_cs (dv 0) (da_cs (dv 2) da_nl))) (xlen_ok (len_cons (len_cons len_nil)))))
    (sxs_one (sx_app 1 (pe_bm PySem.F.plainAttrs_list PySem.F.slot_list_append PySem.F.type_list_append mt_append (pv 1) (pa_cons (ex_callXOG 1 (L2.takes_of rfl rfl rfl rfl) (ok_output_of T) hgu (hr.mono (by decide)) (by rfl) T.m_output_of T.F_output_of.kp (bd_output_of T) (dv 0) (dv 2)) pa_nil))))))
    (sxs_one (sx_ok (ds_ret (dz 1))))))))
theorem bd_check_plan : Binds K T.d_check_plan ["plan"] [] := T.F_check_plan.binds (ps := ["plan"]) fun _ _ _ _ _ _ us hl => match us, hl with | [_], _ => rfl
theorem ok_check_plan : FnG P w K mg base (L2.CX P w) 16 T.a_check_plan T.d_check_plan ["plan"] (spX ⟨K, P, w⟩ mg 1 f_check_plan) := fn_XG (N := N_check_plan) (g := g_check_plan) T.F_check_plan sc_check_plan fun cdv A outer s H E hgu hr =>
  (sxs_one (sx_expr (ex_callG (L2.takes_of rfl rfl rfl rfl) (ok_fields_of T) hgu (hr.mono (by decide)) (by rfl) T.m_fields_of T.F_fields_of.kp (bd_fields_of T) (ax_ok (da_cs (dv 0) da_nl)) (xlen_ok (len_cons len_nil)))))
theorem bd__law_told : Binds K T.d__law_told ["plan", "check"] [] := T.F__law_told.binds (ps := ["plan", "check"]) fun _ _ _ _ _ _ us hl => match us, hl with | [_, _], _ => rfl
theorem ok__law_told : FnG P w K mg base CX0 17 T.a__law_told T.d__law_told ["plan", "check"] (spV ⟨K, P, w⟩ 2 f__law_told) := fn_VG (N := N__law_told) (g := g__law_told) T.F__law_told sc__law_told fun cdv A outer s H E hgu hr =>
  (dss_one (ds_noX (sx_tryL (i := 2) rfl rfl sc__law_told.nd rfl rfl ⟨by rfl, by decide, .inl T.X_InvalidPlan.gC⟩ Dn.takes0 (fun W pn xe tk hpo => (sxs_cons (sx_if (tx_ok (dt_tru (dv 1))) (sxs_one (sx_ret (ex_tup (ax_cs (ex_ok de_str) (ax_cs (ex_callG tk (ok_check_plan T) hgu (hr.mono (by decide)) (by rfl) T.m_check_plan T.F_check_plan.kp (bd_check_plan T) (ax_ok (da_cs (dv 0) da_nl)) (xlen_ok (len_cons len_nil))) ax_nl))))) sxs_nil)
    (sxs_one (sx_ret (ex_tup (ax_cs (ex_ok de_str) (ax_cs (ex_callG tk (ok_fields_of T) hgu (hr.mono (by decide)) (by rfl) T.m_fields_of T.F_fields_of.kp (bd_fields_of T) (ax_ok (da_cs (dv 0) da_nl)) (xlen_ok (len_cons len_nil))) ax_nl))))))) (HA.yes T.X_InvalidPlan.gC T.ex_InvalidPlan_InvalidPlan (fun m a dd oe pn hz hf => (mss_one (ms_ret (me_tup (ma_cs (me_ok de_str) (ma_cs (me_msg T.X_InvalidPlan hz hf) (ma_cs (me_isM T.X_InvalidPlan hz hf T.ki_InvalidPlan_TideweirError T.z_isinstance (by rfl) (by rfl) T.X_TideweirError.gC) ma_nl))))))) HA.nil))))
theorem bd_is_source : Binds K T.d_is_source ["node"] [] := T.F_is_source.binds (ps := ["node"]) fun _ _ _ _ _ _ us hl => match us, hl with | [_], _ => rfl
theorem ok_is_source : FnOk P w K mg base CX0 1 T.a_is_source T.d_is_source ["node"] (spV ⟨K, P, w⟩ 1 f_is_source) := fn_V (N := N_is_source) (g := g_is_source) T.F_is_source sc_is_source fun cdv A outer s H E hr =>
  (dss_one (ds_ret (de_cmp (op_eqD' hr.units) (de_ix ix_D (de_ix ix_D (dv 0) de_int (fun _ _ => rfl)) de_int (fun _ _ => rfl)) de_str (nomark _))))
theorem bd_sources_of : Binds K T.d_sources_of ["plan"] [] := T.F_sources_of.binds (ps := ["plan"]) fun _ _ _ _ _ _ us hl => match us, hl with | [_], _ => rfl
theorem ok_sources_of : FnOk P w K mg base CX0 2 T.a_sources_of T.d_sources_of ["plan"] (spV ⟨K, P, w⟩ 1 f_sources_of) := fn_V (N := N_sources_of) (g := g_sources_of) T.F_sources_of sc_sources_of fun cdv A outer s H E hr =>
  (dss_cons (ds_own (i := 1) sc_sources_of.nd rfl (.inl rfl) (df_lst da_nl))
    (dss_cons (ds_for PassesOwn.never rfl (di_seq (dv 0)) (dg_name (i := 2) sc_sources_of.nd rfl (.inl rfl)) (dss_one (ds_if (dt_bool (dt_and (dt_tru (de_call (ok_is_source T) (hr.mono (by decide)) (by rfl) T.m_is_source T.F_is_source.kp (bd_is_source T) (by rfl) (da_cs (dv 2) da_nl) (len_cons len_nil))) (dt_and1 (dbt_nin 1 (in65 hr) (de_ix ix_D (de_ix ix_D (dv 2) de_int (fun _ _ => rfl)) de_int (fun _ _ => rfl)))))) (dss_one (ds_app 1 (pe_bm PySem.F.plainAttrs_list PySem.F.slot_list_append PySem.F.type_list_append mt_append (pv 1) (pa_cons (de_ix ix_D (de_ix ix_D (dv 2) de_int (fun _ _ => rfl)) de_int (fun _ _ => rfl)) pa_nil)))) dss_nil)))
    (dss_one (ds_ret (dz 1)))))
theorem ok_law (cdv : Value) (s : Shared) (H : Hp) (E : XK) : DSs (cxOf CX0 P w K mg base N_law "law" (defScope s_law) T.a_law cdv callerA [] s H E).nox (defBody s_law) g_law :=
  have hr : Room 17 (callerA.deeper (envOfC "law" (defScope s_law) s.heap.objs.size T.a_law cdv)) := Room.deeper (k := 17) ⟨rfl, by decide, by decide⟩ _
  (dss_cons (ds_set (i := 1) sc_law.nd rfl (.inl rfl) (de_call (ok__law_rows T) (hr.mono (by decide)) (by rfl) T.m__law_rows T.F__law_rows.kp (bd__law_rows T) (by rfl) (da_cs (dv 0) (da_cs de_int da_nl)) (len_cons (len_cons len_nil))))
    (dss_cons (ds_set (i := 2) sc_law.nd rfl (.inl rfl) (de_call (ok__law_drawn_plan T) (hr.mono (by decide)) (by rfl) T.m__law_drawn_plan T.F__law_drawn_plan.kp (bd__law_drawn_plan T) (by rfl) (da_cs (dv 1) (da_cs de_int (da_cs (de_bin op_modD (de_callTy call_intD (by rfl) T.z_int bt_int (da_cs (de_ix ix_D (dv 1) de_int (fun _ _ => rfl)) da_nl)) de_int) da_nl))) (len_cons (len_cons (len_cons len_nil)))))
    (dss_cons (ds_own (i := 3) sc_law.nd rfl (by first | exact .inr rfl | exact .inl rfl) (df_lst da_nl))
    (dss_cons (ds_for PassesOwn.never rfl (di_seq (dv 2)) (dg_tup rfl (dgs_cons (dg_name (i := 4) sc_law.nd rfl (.inl rfl)) (dgs_cons (dg_name (i := 5) sc_law.nd rfl (.inl rfl)) dgs_nil))) (dss_one (ds_if (dt_cmp (op_eqD' hr.units) (de_ix ix_D (dv 4) de_int (fun _ _ => rfl)) de_str (nomark _)) (dss_one (ds_app 3 (pe_bm PySem.F.plainAttrs_list PySem.F.slot_list_append PySem.F.type_list_append mt_append (pv 3) (pa_cons (de_tup (da_cs (de_ix ix_D (dv 4) de_int (fun _ _ => rfl)) (da_cs de_str da_nl))) pa_nil)))) (dss_one (ds_app 3 (pe_bm PySem.F.plainAttrs_list PySem.F.slot_list_append PySem.F.type_list_append mt_append (pv 3) (pa_cons (de_callX0N (ok_check_operator T) (hr.mono (by decide)) (by rfl) T.m_check_operator T.F_check_operator.kp (bd_check_operator T) (da_cs (dv 4) (da_cs (df_de (df_lc (pe_lc (own := [("number", 12)]) (by rfl) sc_law.nd (di_seq (dv 5)) (blkOk_by (own := [("number", 12)]) (N := N_law) (sc := defScope s_law) (by decide +kernel)) (fun _ _ _ _ _ => (dg_name (i := 12) sc_law.nd rfl (by first | exact .inl rfl | exact .inr rfl))) (fun _ _ _ _ _ => dts_nil) (fun _ _ _ _ _ => (db_ix 3 (dv 12)))))) da_nl)) (len_cons (len_cons len_nil))) pa_nil)))))))
    (dss_cons (ds_if (dt_bool (dt_or (dt_cmp (op_neD' hr.units) (de_callG (ok__law_told T) rfl (hr.mono (by decide)) (by rfl) T.m__law_told T.F__law_told.kp (bd__law_told T) (by rfl) (da_cs (dv 2) (da_cs de_bl da_nl)) (len_cons (len_cons len_nil))) (de_tup (da_cs de_str (da_cs de_non da_nl))) (nomark _)) (dt_or1 (dt_cmp (op_neD' hr.units) (de_call (ok_sources_of T) (hr.mono (by decide)) (by rfl) T.m_sources_of T.F_sources_of.kp (bd_sources_of T) (by rfl) (da_cs (dv 2) da_nl) (len_cons len_nil)) (df_de (df_lst (da_cs de_str (da_cs de_str da_nl)))) (nomark _))))) (dss_one (ds_ret de_bl)) dss_nil)
    (dss_cons (ds_set (i := 6) sc_law.nd rfl (.inl rfl) (de_callX0G (ok_fields_of T) rfl (hr.mono (by decide)) (by rfl) T.m_fields_of T.F_fields_of.kp (bd_fields_of T) (da_cs (dv 2) da_nl) (len_cons len_nil)))
    (dss_cons (ds_if (dt_bool (dt_or (dt_not (dt_tru (de_isi T.z_isinstance (by rfl) (by rfl) T.z_list bt_list (dv 6)))) (dt_or1 (dt_cmp (op_neD' hr.units) (de_callB (call_reprD rfl (in65 hr)) (by rfl) T.z_repr bb_repr (da_cs (dv 6) da_nl)) (de_callB (call_reprD rfl (in65 hr)) (by rfl) T.z_repr bb_repr (da_cs (dz 3) da_nl)) (nomark _))))) (dss_one (ds_ret de_bl)) dss_nil)
    (dss_cons (ds_for PassesOwn.never rfl (di_rng2 (by rfl) T.z_range (da_cs de_int (da_cs de_int da_nl))) (dg_name (i := 7) sc_law.nd rfl (.inl rfl)) (dss_cons (ds_asg (ps_asg (de_call (ok__law_broken T) (hr.mono (by decide)) (by rfl) T.m__law_broken T.F__law_broken.kp (bd__law_broken T) (by rfl) (da_cs (dv 2) (da_cs (de_ix ix_D (dv 1) (dv 7) (fun _ _ => rfl)) da_nl)) (len_cons (len_cons len_nil))) (dg_tup rfl (dgs_cons (dg_name (i := 8) sc_law.nd rfl (.inl rfl)) (dgs_cons (dg_name (i := 9) sc_law.nd rfl (.inl rfl)) dgs_nil)))))
    (dss_cons (ds_set (i := 10) sc_law.nd rfl (.inl rfl) (de_callB (call_reprD rfl (in65 hr)) (by rfl) T.z_repr bb_repr (da_cs (dv 8) da_nl)))
    (dss_cons (ds_set (i := 11) sc_law.nd rfl (.inl rfl) (de_tup (da_cs de_str (da_cs (dv 9) (da_cs de_bl da_nl)))))
    (dss_one (ds_if (dt_bool (dt_or (dt_cmp (op_neD' hr.units) (de_callG (ok__law_told T) rfl (hr.mono (by decide)) (by rfl) T.m__law_told T.F__law_told.kp (bd__law_told T) (by rfl) (da_cs (dv 8) (da_cs de_bl da_nl)) (len_cons (len_cons len_nil))) (dv 11) (nomark _)) (dt_or (dt_cmp (op_neD' hr.units) (de_callG (ok__law_told T) rfl (hr.mono (by decide)) (by rfl) T.m__law_told T.F__law_told.kp (bd__law_told T) (by rfl) (da_cs (dv 8) (da_cs de_bl da_nl)) (len_cons (len_cons len_nil))) (dv 11) (nomark _)) (dt_or1 (dt_cmp (op_neD' hr.units) (de_callB (call_reprD rfl (in65 hr)) (by rfl) T.z_repr bb_repr (da_cs (dv 8) da_nl)) (dv 10) (nomark _)))))) (dss_one (ds_ret de_bl)) dss_nil))))))
    (dss_one (ds_ret de_bl))))))))))
end
end Lw
set_option maxHeartbeats 4000000
namespace Lw
open PySem Dn Dm DnSo
local macro_rules | `(tactic| simp! [$xs,*]) => `(tactic| simp (maxSteps := 4000000) only [backE, wipeE, wo_some, wo_none, wm_c, wm_var, wm_frz, wm_bin, wm_un, wm_tst, wm_tru, wm_truB, wm_chain, wm_and, wm_or, wm_not, wm_andV, wm_orV, wm_notV, wm_ifE, wm_nil, wm_cons, wm_app, wm_noP, wm_part, wm_sl, wm_pk, wm_io, wm_ix, wm_inB, wm_true, wm_seq, wm_rng1, wm_rng2,
    then_nx, then_ret, then_rof, then_brk, then_cnt, ws_next, ws_brk, ws_cnt, ws_seq, ws_if, ws_ret, ws_rof, ws_drop, ws_set, ws_own, ws_asg, wo_TN, wo_TNil, wo_TCons, wo_TTup, ws_ap, ws_setIx, ws_for, for_nil, turn_nx, turn_cnt, turn_brk, turn_ret, turn_rof, wm_lc, end_ret, end_nx, end_rof, end_io, ownOf_own, valOf_val, frz_val, frz_own, frz_ownD, ixO_l, ixO_d, cOwn_own, peek_val, peek_own, peek_ownD, by_val, by_own, canSet_none, canSet_val, canSet_own, lstOf_list,
    List.getElem?_cons_zero, List.getElem?_cons_succ, List.set_cons_zero, List.set_cons_succ, List.length_cons, List.length_nil, wo_ite, wo_bind, ↓reduceIte, and_true, true_and, and_self, Bool.false_eq_true, Bool.not_true, Bool.not_false, decide_eq_true_eq, decide_true, decide_false, oneInt_int, twoInts_int,
    add_ii, add_ll, add_tt, add_ss, sub_ii, mul_ii, mulS_ii, mod_ii, fdiv_ii, neg_i, le_ii, gt_ii, ge_ii, eqT_ii, eqT_ss, eqT_bb, eqT_nn, ltT_ii, ltT_ss, wo_eqD, wo_neD, wo_ltD, wo_inD, wo_ninD, is_n, isnt_n, is_bb, isnt_bb, isN, bOf_b, iOf_i, tru_b, tru_n, tru_i, tru_l, tru_t, seq_l, seq_t, tup_l, tup_t, lst_l, lst_t, len_l, len_t, int_i, int_b, abs_i, max_ii, min_ii, ix_li, ix_ti, cut_l, cut_t, flat_i, flat_b, flat_s, ix0, ix1, ix2, mkTup, mkLst,
    add2_ll, ws_par3, three_c, ws_grp, empty_own, lOwnD_own, wm_lcW, wm_getD, wm_ind, ix3, ix4, ix_m2, ix_m1, ix_p2, ix_p1, wm_newD, ws_setK, wm_get, wm_ixK, wm_sortN, ws_ext, dOwn_own, lOwn_own, lsD_list, step_nx, step_cnt, step_brk, step_ret, step_rof, wm_reve, rev_l, rev_t, wm_opBL, repr_l, sort_l, sum_l, wm_enum, enum_l, enum_t, enumL_nil, wm_dic, wm_kvn, wm_kvc, seq_s, mulT_si, len_s, ord_c, str_i, ty_d, k_lb, k_li, k_ls, k_tb, k_ti, k_ts, k_db, k_di, k_ds, k_lt, k_tl,
    isi_1, tyOk_n, tyOk_b, tyOk_i, tyOk_s, tyOk_l, tyOk_t, ty_n, ty_b, ty_i, ty_s, ty_l, ty_t, k_nb, k_bb, k_ib, k_sb, k_ni, k_bi, k_ii, k_si, k_ns, k_bs, k_is, k_ss, k_ll, k_tt,
    Int.reduceNeg, Int.reducePow, Int.reduceLT, Int.reduceLE, Int.reduceAdd, Int.reduceSub, Int.reduceMul, Int.reduceToNat, Nat.reduceAdd, Nat.reduceLeDiff, Nat.reduceEqDiff, Int.reduceEq, reduceCtorEq, ws_grpL, empty_ownL, wo_TLst, wg_P, wg_end, wg_then, theng_nx, wg_yield, wm_callG, wo_runG, List.nil_append, wx_okD, wx_okL, wx_okB, wx_okS, wx_cons, wx_call, wx_app, wx_bin, wx_tst, wx_not, wx_ite, thenx_nx, thenx_ret, thenx_rof, thenx_brk, thenx_cnt, wx_seq, wx_if, wx_ret, wx_drop, wx_set, wx_apd, ownL_own, wx_raise, strOf_s, wx_for, ws_noX, wx_tryA, wx_try, retq_ret, either_l, either_r, endq_nx, endq_ret, hL_hd, gL_hd, wo_runX, wx_own, wl_nil, wl_cons, wx_lc, wm_keys, wm_callIOF, wx_tryR, rzq_str, h1_hd, mulL_ii, mulR_ti, $xs,*])
theorem str_iff {a b : String} : (Str.ofString a = Str.ofString b) = (a = b) := propext ⟨ofString_inj, fun h => by rw [h]⟩
inductive Sg where
  | and | or | eq | lt | le | add | sub | mul | div
def sgS : Sg → Str
  | .and => "and"
  | .or => "or"
  | .eq => "=="
  | .lt => "<"
  | .le => "<="
  | .add => "+"
  | .sub => "-"
  | .mul => "*"
  | .div => "/"
inductive Ex where
  | col (x : Str)
  | val (d : D)
  | bin (s : Sg) (a b : Ex)
  | pick (c a b : Ex)
  | not (a : Ex)
  | null (a : Ex)
  | len (a : Ex)
def exD : Ex → D
  | .col x => .tuple [.str "column", .str x]
  | .val d => .tuple [.str "value", d]
  | .bin s a b => .tuple [.str "binary", .str (sgS s), exD a, exD b]
  | .pick c a b => .tuple [.str "pick", exD c, exD a, exD b]
  | .not a => .tuple [.str "not", exD a]
  | .null a => .tuple [.str "null", exD a]
  | .len a => .tuple [.str "length", exD a]
def hgt : Ex → Nat
  | .col _ => 1
  | .val _ => 1
  | .bin _ a b => max (hgt a) (hgt b) + 1
  | .pick c a b => max (hgt c) (max (hgt a) (hgt b)) + 1
  | .not a => hgt a + 1
  | .null a => hgt a + 1
  | .len a => hgt a + 1
/-- drawn over the names ns -/
def wfE (ns : List Str) : Ex → Prop
  | .col x => (∀ y ∈ ns, y = y) ∧ x.length ≤ 1000
  | .val d => gv d ∧ isV d = true
  | .bin _ a b => wfE ns a ∧ wfE ns b
  | .pick c a b => wfE ns c ∧ wfE ns a ∧ wfE ns b
  | .not a => wfE ns a
  | .null a => wfE ns a
  | .len a => wfE ns a
theorem hgt_pos (e : Ex) : 1 ≤ hgt e := by cases e <;> simp [hgt]
theorem col_loop {x : Str} : ∀ (ps : List (Str × Str)) (i : Nat) (f o1 o2 : Option Cell), canSet (some o1) = some () → canSet (some o2) = some () →
    Ws (forD (gTTup 2 (gTCons (gTN 2) (gTCons (gTN 3) gTNil))) (sIf (gTst (gBin eqD (gBin ixD (gVar 3) (gC (.int 0))) (gVar 1))) (sRet (gVar 2)) sNext) (enumL i (ps.map fdD)))
      [f, some (.val (.str x)), o1, o2] (thenQ (sRet (gC .none)) fun f ρ => Wo (endV (f, ρ)) fun r => r = colAt i ps x)
  | [], i, f, o1, o2, h1, h2 => by
    rw [List.map_nil, enumL_nil]
    simp! []
    all_goals rfl
  | p :: ps, i, f, o1, o2, h1, h2 => by
    rw [List.map_cons, enumL_cons, for_cons]
    have ih := col_loop (x := x) ps (i + 1) f (some (.val (.int i))) (some (.val (fdD p))) rfl rfl
    unfold fdD at ih ⊢
    simp! [h1, h2]
    rw [colAt]
    split
    · rfl
    · exact ih
theorem sp_column {ps : List (Str × Str)} {fd : D} {x : Str} (hs : enumOf [fd] = some (enumL 0 (ps.map fdD))) : f_column_index [fd, .str x] = some (colAt 0 ps x) := by
  rw [← wo_eq]
  unfold f_column_index
  rw [wo_runV]
  show Ws g_column_index [some (.val fd), some (.val (.str x)), none, none] _
  unfold g_column_index
  simp! [hs]
  exact col_loop ps 0 _ _ _ rfl rfl
def lookK : List (Str × Str) → Str → Option Str
  | [], _ => none
  | p :: ps, x => if p.1 = x then some p.2 else lookK ps x
def tD : Option Str → D
  | none => .none
  | some k => .str k
def tyO : D → Option Str
  | .none => none
  | .bool _ => some "flag"
  | .int _ => some "whole"
  | _ => some "text"
def agr (a b : Option Str) : Bool := a.isNone || (b.isNone || decide (a = b))
def differS : Str := "types differ"
def noC (x : Str) : Str := "there is no column " ++ x
abbrev Ty := Option Str ⊕ Str
def bindT (a : Ty) (k : Option Str → Ty) : Ty := match a with
  | .inl t => k t
  | .inr m => .inr m
def tyS (s : Sg) (a b : Option Str) : Ty := match s with
  | .and => if (agr a (some "flag") && agr b (some "flag")) = true then .inl (some "flag") else .inr differS
  | .or => if (agr a (some "flag") && agr b (some "flag")) = true then .inl (some "flag") else .inr differS
  | .eq => if agr a b = true then .inl (some "flag") else .inr differS
  | .lt => if agr a b = true then .inl (some "flag") else .inr differS
  | .le => if agr a b = true then .inl (some "flag") else .inr differS
  | .add => if (agr a (some "whole") && agr b (some "whole")) = true then .inl (some "whole") else .inr differS
  | .sub => if (agr a (some "whole") && agr b (some "whole")) = true then .inl (some "whole") else .inr differS
  | .mul => if (agr a (some "whole") && agr b (some "whole")) = true then .inl (some "whole") else .inr differS
  | .div => if (agr a (some "whole") && agr b (some "whole")) = true then .inl (some "whole") else .inr differS
def ty (ps : List (Str × Str)) : Ex → Ty
  | .col x => match lookK ps x with
    | some k => .inl (some k)
    | none => .inr (noC x)
  | .val d => .inl (tyO d)
  | .bin s a b => bindT (ty ps a) fun ta => bindT (ty ps b) fun tb => tyS s ta tb
  | .pick c a b => bindT (ty ps c) fun tc => bindT (ty ps a) fun ta => bindT (ty ps b) fun tb => if agr tc (some "flag") = true ∧ agr ta tb = true then .inl (if ta = none then tb else ta) else .inr differS
  | .not a => bindT (ty ps a) fun ta => if agr ta (some "flag") = true then .inl (some "flag") else .inr differS
  | .null a => bindT (ty ps a) fun _ => .inl (some "flag")
  | .len a => bindT (ty ps a) fun ta => if agr ta (some "text") = true then .inl (some "whole") else .inr differS
def tyX : Ty → D ⊕ Xc
  | .inl t => .inl (tD t)
  | .inr m => .inr ⟨"InvalidOperator", m⟩
theorem sp_ag {a b : Option Str} : f_agree [tD a, tD b] = some (.bool (agr a b)) := by
  rw [← wo_eq]
  unfold f_agree
  rw [wo_runV]
  show Ws g_agree [some (.val (tD a)), some (.val (tD b))] _
  unfold g_agree
  cases a with
  | none => simp! [tD, agr, Option.isNone]
            all_goals first | rfl | trivial | simp
  | some a =>
    cases b with
    | none => simp! [tD, agr, Option.isNone]
              all_goals first | rfl | trivial | simp
    | some b =>
      simp! [tD, agr, Option.isNone]
      all_goals first | rfl | trivial | simp
def wantX (b : Bool) : D ⊕ Xc := if b = true then .inl .none else .inr ⟨"InvalidOperator", differS⟩
theorem sp_want {ts : List (Option Str)} {w : Option Str} : f_want [.list (ts.map tD), tD w] = some (wantX (ts.all fun t => agr t w)) := by
  rw [← wo_eq]
  unfold f_want
  rw [wo_runX]
  show Wx g_want [some (.val (.list (ts.map tD))), some (.val (tD w)), none] _ _
  unfold g_want
  simp! []
  refine wx_forA tD (fun p ρ => ∃ (o2 : Option Cell), canSet (some o2) = some () ∧ (p.all fun t => agr t w) = true ∧ ρ = [some (.val (.list (ts.map tD))), some (.val (tD w)), o2]) ⟨none, rfl, rfl, rfl⟩ ?_ ?_
  · rintro p t q ρ e ⟨o2, h2, hp, rfl⟩
    cases h : agr t w with
    | true =>
      simp! [h2, sp_ag, h]
      exact ⟨_, rfl, by rw [List.all_append, hp]; simp [h], rfl⟩
    | false =>
      have ea : (ts.all fun t => agr t w) = false := by rw [e, List.all_append, List.all_cons, h]; simp
      simp! [h2, sp_ag, h]
      rw [ea]
      rfl
  · rintro ρ' ⟨o2, h2, hp, rfl⟩
    simp! []
    rw [hp]
    rfl
theorem want1 {a w : Option Str} : f_want [.list [tD a], tD w] = some (wantX (agr a w)) := by
  have := sp_want (ts := [a]) (w := w)
  simpa using this
theorem want2 {a b w : Option Str} : f_want [.list [tD a, tD b], tD w] = some (wantX (agr a w && agr b w)) := by
  have := sp_want (ts := [a, b]) (w := w)
  simpa using this
theorem in4 (s : Sg) : inT (.str (sgS s)) (.tuple [.str "+", .str "-", .str "*", .str "/"]) = some (match s with | .add => true | .sub => true | .mul => true | .div => true | _ => false) := by cases s <;> decide +kernel
theorem in2 (s : Sg) : inT (.str (sgS s)) (.tuple [.str "and", .str "or"]) = some (match s with | .and => true | .or => true | _ => false) := by cases s <;> decide +kernel
theorem sp_tb {s : Sg} {a b : Option Str} : f_type_of_binary [.str (sgS s), .list [tD a, tD b]] = some (tyX (tyS s a b)) := by
  rw [← wo_eq]
  unfold f_type_of_binary
  rw [wo_runX]
  show Wx g_type_of_binary [some (.val (.str (sgS s))), some (.val (.list [tD a, tD b]))] _ _
  unfold g_type_of_binary
  have wf := want2 (a := a) (b := b) (w := some "flag")
  have ww := want2 (a := a) (b := b) (w := some "whole")
  have wt := want1 (a := a) (w := b)
  have ef : tD (some "flag") = .str "flag" := rfl
  have ew : tD (some "whole") = .str "whole" := rfl
  rw [ef] at wf
  rw [ew] at ww
  have x1 : wantX true = .inl .none := rfl
  have x2 : wantX false = .inr ⟨"InvalidOperator", differS⟩ := rfl
  have c1 : cutA [tD a, tD b] none (some 1) = [tD a] := rfl
  have c2 : ixA [tD a, tD b] 1 = some (tD b) := rfl
  cases s with
  | and => cases h : (agr a (some "flag") && agr b (some "flag")) <;> rw [h] at wf <;> simp! [in4, in2, wf, x1, x2, tyS, h, tyX, ef]
  | or => cases h : (agr a (some "flag") && agr b (some "flag")) <;> rw [h] at wf <;> simp! [in4, in2, wf, x1, x2, tyS, h, tyX, ef]
  | eq => cases h : agr a b <;> rw [h] at wt <;> simp! [in4, in2, wt, c1, c2, x1, x2, tyS, h, tyX, ef]
  | lt => cases h : agr a b <;> rw [h] at wt <;> simp! [in4, in2, wt, c1, c2, x1, x2, tyS, h, tyX, ef]
  | le => cases h : agr a b <;> rw [h] at wt <;> simp! [in4, in2, wt, c1, c2, x1, x2, tyS, h, tyX, ef]
  | add => cases h : (agr a (some "whole") && agr b (some "whole")) <;> rw [h] at ww <;> simp! [in4, in2, ww, x1, x2, tyS, h, tyX, ew]
  | sub => cases h : (agr a (some "whole") && agr b (some "whole")) <;> rw [h] at ww <;> simp! [in4, in2, ww, x1, x2, tyS, h, tyX, ew]
  | mul => cases h : (agr a (some "whole") && agr b (some "whole")) <;> rw [h] at ww <;> simp! [in4, in2, ww, x1, x2, tyS, h, tyX, ew]
  | div => cases h : (agr a (some "whole") && agr b (some "whole")) <;> rw [h] at ww <;> simp! [in4, in2, ww, x1, x2, tyS, h, tyX, ew]
theorem cut1 {x : D} {xs : List D} : cutA (x :: xs) (some 1) none = xs := by
  have := cut_drop (x :: xs) 1
  simpa using this
def prtE : Ex → List Ex
  | .col _ => []
  | .val _ => []
  | .bin _ a b => [a, b]
  | .pick c a b => [c, a, b]
  | .not a => [a]
  | .null a => [a]
  | .len a => [a]
theorem sp_parts (e : Ex) : f_parts_of [exD e] = some (.list ((prtE e).map exD)) := by
  rw [← wo_eq]
  unfold f_parts_of
  rw [wo_runV]
  show Ws g_parts_of [some (.val (exD e))] _
  unfold g_parts_of
  cases e <;> simp! [exD, str_iff, String.reduceEq, cut1, prtE, List.map_nil, List.map_cons]
theorem look_loop {ps : List (Str × Str)} {x : Str} : ∀ (i : Nat), (match lookK ps x with | some k => ∃ j : Nat, colAt i ps x = .int ((i + j : Nat) : Int) ∧ ∃ n, ps[j]? = some (n, k) | none => colAt i ps x = .none) := by
  induction ps with
  | nil => exact fun i => rfl
  | cons p ps ih =>
    intro i
    unfold lookK colAt
    by_cases h : p.1 = x
    · rw [if_pos h, if_pos h]
      exact ⟨0, rfl, p.1, rfl⟩
    · rw [if_neg h, if_neg h]
      have := ih (i + 1)
      cases hk : lookK ps x with
      | none => rw [hk] at this; exact this
      | some k =>
        rw [hk] at this
        obtain ⟨j, h1, n, h2⟩ := this
        exact ⟨j + 1, by rw [h1]; congr 2; omega, n, h2⟩
theorem add_noC {x : Str} (h : x.length ≤ 1000) : addD (.str "there is no column ") (.str x) = some (.str (noC x)) := by
  have e : ("there is no column " : Str).length = 19 := by decide +kernel
  rw [add_ss, e, if_pos (by omega)]
  rfl
theorem sp_tov {d : D} (h : gv d) : f_type_of_value [d] = some (tD (tyO d)) := by
  rw [← wo_eq]
  unfold f_type_of_value
  rw [wo_runV]
  show Ws g_type_of_value [some (.val d)] _
  unfold g_type_of_value
  rcases gv_cases h with rfl | ⟨b, rfl⟩ | ⟨i, rfl⟩ | ⟨s, rfl⟩ <;> simp! [tyO, tD]
theorem tyX_l {t : Option Str} : tyX (.inl t) = .inl (tD t) := rfl
theorem tyX_r {m : Str} : tyX (.inr m) = .inr ⟨"InvalidOperator", m⟩ := rfl
theorem sp_type_of {ps : List (Str × Str)} {ns : List Str} : ∀ (e : Ex) (n : Nat), hgt e ≤ n → wfE ns e → fuel_type_of n [exD e, .tuple (ps.map fdD)] = some (tyX (ty ps e)) := by
  have x1 : wantX true = .inl .none := rfl
  have x2 : wantX false = .inr ⟨"InvalidOperator", differS⟩ := rfl
  have ef : tD (some "flag") = .str "flag" := rfl
  have et : tD (some "text") = .str "text" := rfl
  have ew : tD (some "whole") = .str "whole" := rfl
  have start : ∀ (e : Ex) (n : Nat) (r0 : D ⊕ Xc), tyX (ty ps e) = r0 → Wx (g_type_of (fuel_type_of n)) [some (.val (exD e)), some (.val (.tuple (ps.map fdD))), none, none, none, none] (endQ fun r => r = r0) (fun x _ => .inr x = r0) → fuel_type_of (n + 1) [exD e, .tuple (ps.map fdD)] = some (tyX (ty ps e)) := fun e n r0 e0 h => by
    rw [← wo_eq, e0]
    show Wo (runX 6 (g_type_of (fuel_type_of n)) [exD e, .tuple (ps.map fdD)]) _
    rw [wo_runX]
    exact h
  intro e
  induction e with
  | col x =>
    intro n hn hw
    obtain ⟨n, rfl⟩ : ∃ m, n = m + 1 := ⟨n - 1, by have := hgt_pos (.col x); omega⟩
    refine start _ _ _ rfl ?_
    unfold g_type_of
    have hc := sp_column (ps := ps) (fd := .tuple (ps.map fdD)) (x := x) rfl
    have hl := look_loop (ps := ps) (x := x) 0
    cases hk : lookK ps x with
    | none =>
      rw [hk] at hl
      rw [hl] at hc
      simp! [exD, str_iff, String.reduceEq, hc, add_noC hw.2, ty, hk, tyX]
    | some k =>
      rw [hk] at hl
      obtain ⟨j, h1, nm, h2⟩ := hl
      rw [h1] at hc
      have hi : ixA (ps.map fdD) ((0 + j : Nat) : Int) = some (.tuple [.str nm, .str k]) := by
        rw [ixA_nat, List.getElem?_map, Nat.zero_add, h2]
        rfl
      simp! [exD, str_iff, String.reduceEq, hc, hi, ty, hk, tyX, tD]
  | val d =>
    intro n hn hw
    obtain ⟨n, rfl⟩ : ∃ m, n = m + 1 := ⟨n - 1, by have := hgt_pos (.val d); omega⟩
    refine start _ _ _ rfl ?_
    unfold g_type_of
    simp! [exD, str_iff, String.reduceEq, sp_tov hw.1, ty, tyX]
  | bin s a b iha ihb =>
    intro n hn hw
    simp only [hgt] at hn
    obtain ⟨n, rfl⟩ : ∃ m, n = m + 1 := ⟨n - 1, by omega⟩
    have ha := iha n (by omega) hw.1
    have hb := ihb n (by omega) hw.2
    have hp : f_parts_of [.tuple [.str "binary", .str (sgS s), exD a, exD b]] = some (.list [exD a, exD b]) := sp_parts (.bin s a b)
    cases hta : ty ps a with
    | inr m =>
      rw [hta, tyX_r] at ha
      refine start _ _ (.inr ⟨"InvalidOperator", m⟩) (by rw [ty, hta]; rfl) ?_
      unfold g_type_of
      simp! [exD, str_iff, String.reduceEq, hp, ha]
      all_goals rfl
    | inl ta =>
      rw [hta, tyX_l] at ha
      cases htb : ty ps b with
      | inr m =>
        rw [htb, tyX_r] at hb
        refine start _ _ (.inr ⟨"InvalidOperator", m⟩) (by rw [ty, hta, htb]; rfl) ?_
        unfold g_type_of
        simp! [exD, str_iff, String.reduceEq, hp, ha, hb]
        all_goals rfl
      | inl tb =>
        rw [htb, tyX_l] at hb
        have h2 := sp_tb (s := s) (a := ta) (b := tb)
        cases hs : tyS s ta tb with
        | inl t =>
          rw [hs, tyX_l] at h2
          refine start _ _ (.inl (tD t)) (by rw [ty, hta, htb]; show tyX (tyS s ta tb) = _; rw [hs]; rfl) ?_
          unfold g_type_of
          simp! [exD, str_iff, String.reduceEq, hp, ha, hb, h2]
          all_goals rfl
        | inr m =>
          rw [hs, tyX_r] at h2
          refine start _ _ (.inr ⟨"InvalidOperator", m⟩) (by rw [ty, hta, htb]; show tyX (tyS s ta tb) = _; rw [hs]; rfl) ?_
          unfold g_type_of
          simp! [exD, str_iff, String.reduceEq, hp, ha, hb, h2]
          all_goals rfl
  | pick c a b ihc iha ihb =>
    intro n hn hw
    simp only [hgt] at hn
    obtain ⟨n, rfl⟩ : ∃ m, n = m + 1 := ⟨n - 1, by omega⟩
    have hc := ihc n (by omega) hw.1
    have ha := iha n (by omega) hw.2.1
    have hb := ihb n (by omega) hw.2.2
    have hp : f_parts_of [.tuple [.str "pick", exD c, exD a, exD b]] = some (.list [exD c, exD a, exD b]) := sp_parts (.pick c a b)
    cases htc : ty ps c with
    | inr m =>
      rw [htc, tyX_r] at hc
      refine start _ _ (.inr ⟨"InvalidOperator", m⟩) (by rw [ty, htc]; rfl) ?_
      unfold g_type_of
      simp! [exD, str_iff, String.reduceEq, hp, hc]
      all_goals rfl
    | inl tc =>
      rw [htc, tyX_l] at hc
      cases hta : ty ps a with
      | inr m =>
        rw [hta, tyX_r] at ha
        refine start _ _ (.inr ⟨"InvalidOperator", m⟩) (by rw [ty, htc, hta]; rfl) ?_
        unfold g_type_of
        simp! [exD, str_iff, String.reduceEq, hp, hc, ha]
        all_goals rfl
      | inl ta =>
        rw [hta, tyX_l] at ha
        cases htb : ty ps b with
        | inr m =>
          rw [htb, tyX_r] at hb
          refine start _ _ (.inr ⟨"InvalidOperator", m⟩) (by rw [ty, htc, hta, htb]; rfl) ?_
          unfold g_type_of
          simp! [exD, str_iff, String.reduceEq, hp, hc, ha, hb]
          all_goals rfl
        | inl tb =>
          rw [htb, tyX_l] at hb
          have w1 := want1 (a := tc) (w := some "flag")
          have w2 := want1 (a := ta) (w := tb)
          rw [ef] at w1
          have e1 : cutA [tD tc, tD ta, tD tb] none (some 1) = [tD tc] := rfl
          have e2 : cutA [tD tc, tD ta, tD tb] (some 1) (some 2) = [tD ta] := rfl
          have e3 : ixA [tD tc, tD ta, tD tb] 2 = some (tD tb) := rfl
          have e4 : ixA [tD tc, tD ta, tD tb] 1 = some (tD ta) := rfl
          cases h1 : agr tc (some "flag") with
          | false =>
            rw [h1] at w1
            refine start _ _ (.inr ⟨"InvalidOperator", differS⟩) (by rw [ty, htc, hta, htb]; show tyX (if _ then _ else _) = _; rw [h1, if_neg (by simp)]; rfl) ?_
            unfold g_type_of
            simp! [exD, str_iff, String.reduceEq, hp, hc, ha, hb, w1, x2, e1]
            all_goals rfl
          | true =>
            rw [h1] at w1
            cases h2 : agr ta tb with
            | false =>
              rw [h2] at w2
              refine start _ _ (.inr ⟨"InvalidOperator", differS⟩) (by rw [ty, htc, hta, htb]; show tyX (if _ then _ else _) = _; rw [h1, h2, if_neg (by simp)]; rfl) ?_
              unfold g_type_of
              simp! [exD, str_iff, String.reduceEq, hp, hc, ha, hb, w1, w2, x1, x2, e1, e2, e3, e4]
              all_goals rfl
            | true =>
              rw [h2] at w2
              refine start _ _ (.inl (tD (if ta = none then tb else ta))) (by rw [ty, htc, hta, htb]; show tyX (if _ then _ else _) = _; rw [h1, h2, if_pos (by simp)]; rfl) ?_
              unfold g_type_of
              have en : tD none = .none := rfl
              cases ta with
              | none =>
                simp only [en] at e1 e2 e3 e4 w2 ha
                simp! [exD, str_iff, String.reduceEq, hp, hc, ha, hb, w1, w2, x1, x2, e1, e2, e3, e4, en, wm_ifE]
                all_goals rfl
              | some k =>
                have ek : tD (some k) = .str k := rfl
                simp only [ek] at e1 e2 e3 e4 w2 ha
                simp! [exD, str_iff, String.reduceEq, hp, hc, ha, hb, w1, w2, x1, x2, e1, e2, e3, e4, ek, wm_ifE]
                all_goals rfl
  | not a iha =>
    intro n hn hw
    simp only [hgt] at hn
    obtain ⟨n, rfl⟩ : ∃ m, n = m + 1 := ⟨n - 1, by omega⟩
    have ha := iha n (by omega) hw
    have hp : f_parts_of [.tuple [.str "not", exD a]] = some (.list [exD a]) := sp_parts (.not a)
    cases hta : ty ps a with
    | inr m =>
      rw [hta, tyX_r] at ha
      refine start _ _ (.inr ⟨"InvalidOperator", m⟩) (by rw [ty, hta]; rfl) ?_
      unfold g_type_of
      simp! [exD, str_iff, String.reduceEq, hp, ha]
      all_goals rfl
    | inl ta =>
      rw [hta, tyX_l] at ha
      have w1 := want1 (a := ta) (w := some "flag")
      rw [ef] at w1
      cases h1 : agr ta (some "flag") with
      | false =>
        rw [h1] at w1
        refine start _ _ (.inr ⟨"InvalidOperator", differS⟩) (by rw [ty, hta]; show tyX (if _ then _ else _) = _; rw [h1, if_neg (by simp)]; rfl) ?_
        unfold g_type_of
        simp! [exD, str_iff, String.reduceEq, hp, ha, w1, x2]
        all_goals rfl
      | true =>
        rw [h1] at w1
        refine start _ _ (.inl (.str "flag")) (by rw [ty, hta]; show tyX (if _ then _ else _) = _; rw [h1, if_pos rfl]; rfl) ?_
        unfold g_type_of
        simp! [exD, str_iff, String.reduceEq, hp, ha, w1, x1]
        all_goals rfl
  | null a iha =>
    intro n hn hw
    simp only [hgt] at hn
    obtain ⟨n, rfl⟩ : ∃ m, n = m + 1 := ⟨n - 1, by omega⟩
    have ha := iha n (by omega) hw
    have hp : f_parts_of [.tuple [.str "null", exD a]] = some (.list [exD a]) := sp_parts (.null a)
    cases hta : ty ps a with
    | inr m =>
      rw [hta, tyX_r] at ha
      refine start _ _ (.inr ⟨"InvalidOperator", m⟩) (by rw [ty, hta]; rfl) ?_
      unfold g_type_of
      simp! [exD, str_iff, String.reduceEq, hp, ha]
      all_goals rfl
    | inl ta =>
      rw [hta, tyX_l] at ha
      refine start _ _ (.inl (.str "flag")) (by rw [ty, hta]; rfl) ?_
      unfold g_type_of
      simp! [exD, str_iff, String.reduceEq, hp, ha]
      all_goals rfl
  | len a iha =>
    intro n hn hw
    simp only [hgt] at hn
    obtain ⟨n, rfl⟩ : ∃ m, n = m + 1 := ⟨n - 1, by omega⟩
    have ha := iha n (by omega) hw
    have hp : f_parts_of [.tuple [.str "length", exD a]] = some (.list [exD a]) := sp_parts (.len a)
    cases hta : ty ps a with
    | inr m =>
      rw [hta, tyX_r] at ha
      refine start _ _ (.inr ⟨"InvalidOperator", m⟩) (by rw [ty, hta]; rfl) ?_
      unfold g_type_of
      simp! [exD, str_iff, String.reduceEq, hp, ha]
      all_goals rfl
    | inl ta =>
      rw [hta, tyX_l] at ha
      have w1 := want1 (a := ta) (w := some "text")
      rw [et] at w1
      cases h1 : agr ta (some "text") with
      | false =>
        rw [h1] at w1
        refine start _ _ (.inr ⟨"InvalidOperator", differS⟩) (by rw [ty, hta]; show tyX (if _ then _ else _) = _; rw [h1, if_neg (by simp)]; rfl) ?_
        unfold g_type_of
        simp! [exD, str_iff, String.reduceEq, hp, ha, w1, x2]
        all_goals rfl
      | true =>
        rw [h1] at w1
        refine start _ _ (.inl (.str "whole")) (by rw [ty, hta]; show tyX (if _ then _ else _) = _; rw [h1, if_pos rfl]; rfl) ?_
        unfold g_type_of
        simp! [exD, str_iff, String.reduceEq, hp, ha, w1, x1]
        all_goals rfl
end Lw
set_option maxHeartbeats 4000000
namespace Lw
open PySem Dn Dm DnSo
local macro_rules | `(tactic| simp! [$xs,*]) => `(tactic| simp (maxSteps := 4000000) only [backE, wipeE, wo_some, wo_none, wm_c, wm_var, wm_frz, wm_bin, wm_un, wm_tst, wm_tru, wm_truB, wm_chain, wm_and, wm_or, wm_not, wm_andV, wm_orV, wm_notV, wm_ifE, wm_nil, wm_cons, wm_app, wm_noP, wm_part, wm_sl, wm_pk, wm_io, wm_ix, wm_inB, wm_true, wm_seq, wm_rng1, wm_rng2,
    then_nx, then_ret, then_rof, then_brk, then_cnt, ws_next, ws_brk, ws_cnt, ws_seq, ws_if, ws_ret, ws_rof, ws_drop, ws_set, ws_own, ws_asg, wo_TN, wo_TNil, wo_TCons, wo_TTup, ws_ap, ws_setIx, ws_for, for_nil, turn_nx, turn_cnt, turn_brk, turn_ret, turn_rof, wm_lc, end_ret, end_nx, end_rof, end_io, ownOf_own, valOf_val, frz_val, frz_own, frz_ownD, ixO_l, ixO_d, cOwn_own, peek_val, peek_own, peek_ownD, by_val, by_own, canSet_none, canSet_val, canSet_own, lstOf_list,
    List.getElem?_cons_zero, List.getElem?_cons_succ, List.set_cons_zero, List.set_cons_succ, List.length_cons, List.length_nil, wo_ite, wo_bind, ↓reduceIte, and_true, true_and, and_self, Bool.false_eq_true, Bool.not_true, Bool.not_false, decide_eq_true_eq, decide_true, decide_false, oneInt_int, twoInts_int,
    add_ii, add_ll, add_tt, add_ss, sub_ii, mul_ii, mulS_ii, mod_ii, fdiv_ii, neg_i, le_ii, gt_ii, ge_ii, eqT_ii, eqT_ss, eqT_bb, eqT_nn, ltT_ii, ltT_ss, wo_eqD, wo_neD, wo_ltD, wo_inD, wo_ninD, is_n, isnt_n, is_bb, isnt_bb, isN, bOf_b, iOf_i, tru_b, tru_n, tru_i, tru_l, tru_t, seq_l, seq_t, tup_l, tup_t, lst_l, lst_t, len_l, len_t, int_i, int_b, abs_i, max_ii, min_ii, ix_li, ix_ti, cut_l, cut_t, flat_i, flat_b, flat_s, ix0, ix1, ix2, mkTup, mkLst,
    add2_ll, ws_par3, three_c, ws_grp, empty_own, lOwnD_own, wm_lcW, wm_getD, wm_ind, ix3, ix4, ix_m2, ix_m1, ix_p2, ix_p1, wm_newD, ws_setK, wm_get, wm_ixK, wm_sortN, ws_ext, dOwn_own, lOwn_own, lsD_list, step_nx, step_cnt, step_brk, step_ret, step_rof, wm_reve, rev_l, rev_t, wm_opBL, repr_l, sort_l, sum_l, wm_enum, enum_l, enum_t, enumL_nil, wm_dic, wm_kvn, wm_kvc, seq_s, mulT_si, len_s, ord_c, str_i, ty_d, k_lb, k_li, k_ls, k_tb, k_ti, k_ts, k_db, k_di, k_ds, k_lt, k_tl,
    isi_1, tyOk_n, tyOk_b, tyOk_i, tyOk_s, tyOk_l, tyOk_t, ty_n, ty_b, ty_i, ty_s, ty_l, ty_t, k_nb, k_bb, k_ib, k_sb, k_ni, k_bi, k_ii, k_si, k_ns, k_bs, k_is, k_ss, k_ll, k_tt,
    Int.reduceNeg, Int.reducePow, Int.reduceLT, Int.reduceLE, Int.reduceAdd, Int.reduceSub, Int.reduceMul, Int.reduceToNat, Nat.reduceAdd, Nat.reduceLeDiff, Nat.reduceEqDiff, Int.reduceEq, reduceCtorEq, ws_grpL, empty_ownL, wo_TLst, wg_P, wg_end, wg_then, theng_nx, wg_yield, wm_callG, wo_runG, List.nil_append, wx_okD, wx_okL, wx_okB, wx_okS, wx_cons, wx_call, wx_app, wx_bin, wx_tst, wx_not, wx_ite, thenx_nx, thenx_ret, thenx_rof, thenx_brk, thenx_cnt, wx_seq, wx_if, wx_ret, wx_drop, wx_set, wx_apd, ownL_own, wx_raise, strOf_s, wx_for, ws_noX, wx_tryA, wx_try, retq_ret, either_l, either_r, endq_nx, endq_ret, hL_hd, gL_hd, wo_runX, wx_own, wl_nil, wl_cons, wx_lc, wm_keys, wm_callIOF, $xs,*])
abbrev Fs := List (Str × Str)
def tpF (ps : Fs) : D := .tuple (ps.map fdD)
/-- the type of a column, or the fault -/
def tin (ps : Fs) (x : Str) : D ⊕ Xc := match lookK ps x with
  | some k => .inl (.str k)
  | none => .inr ⟨"InvalidOperator", noC x⟩
theorem sp_type_in {ps : Fs} {x : Str} (hx : x.length ≤ 1000) : f_type_in [tpF ps, .str x] = some (tin ps x) := by
  rw [← wo_eq]
  unfold f_type_in
  rw [wo_runX]
  show Wx g_type_in [some (.val (.tuple (ps.map fdD))), some (.val (.str x)), none] _ _
  unfold g_type_in tin
  have hc := sp_column (ps := ps) (fd := .tuple (ps.map fdD)) (x := x) rfl
  have hl := look_loop (ps := ps) (x := x) 0
  cases hk : lookK ps x with
  | none =>
    rw [hk] at hl
    rw [hl] at hc
    simp! [hc, add_noC hx]
  | some k =>
    rw [hk] at hl
    obtain ⟨j, h1, nm, h2⟩ := hl
    rw [h1] at hc
    have hi : ixA (ps.map fdD) ((0 + j : Nat) : Int) = some (.tuple [.str nm, .str k]) := by
      rw [ixA_nat, List.getElem?_map, Nat.zero_add, h2]
      rfl
    simp! [hc, hi]
theorem sp_differ : f_differ [] = some (.inr ⟨"InvalidOperator", differS⟩) := by
  rw [← wo_eq]
  unfold f_differ
  rw [wo_runX]
  show Wx g_differ [] _ _
  unfold g_differ
  simp! []
  rfl
theorem iw_a_filter : inT (.str "filter") (.tuple [.str "group", .str "top", .str "window", .str "first"]) = some false := by decide +kernel
theorem iw_a_map : inT (.str "map") (.tuple [.str "group", .str "top", .str "window", .str "first"]) = some false := by decide +kernel
theorem iw_a_union : inT (.str "union") (.tuple [.str "group", .str "top", .str "window", .str "first"]) = some false := by decide +kernel
theorem iw_a_distinct : inT (.str "distinct") (.tuple [.str "group", .str "top", .str "window", .str "first"]) = some false := by decide +kernel
theorem iw_a_group : inT (.str "group") (.tuple [.str "group", .str "top", .str "window", .str "first"]) = some true := by decide +kernel
theorem iw_a_top : inT (.str "top") (.tuple [.str "group", .str "top", .str "window", .str "first"]) = some true := by decide +kernel
theorem iw_a_window : inT (.str "window") (.tuple [.str "group", .str "top", .str "window", .str "first"]) = some true := by decide +kernel
theorem iw_a_near : inT (.str "near") (.tuple [.str "group", .str "top", .str "window", .str "first"]) = some false := by decide +kernel
theorem iw_a_asof : inT (.str "asof") (.tuple [.str "group", .str "top", .str "window", .str "first"]) = some false := by decide +kernel
theorem iw_a_join : inT (.str "join") (.tuple [.str "group", .str "top", .str "window", .str "first"]) = some false := by decide +kernel
theorem iw_a_first : inT (.str "first") (.tuple [.str "group", .str "top", .str "window", .str "first"]) = some true := by decide +kernel
theorem iw_b_filter : inT (.str "filter") (.tuple [.str "near", .str "asof", .str "join"]) = some false := by decide +kernel
theorem iw_b_map : inT (.str "map") (.tuple [.str "near", .str "asof", .str "join"]) = some false := by decide +kernel
theorem iw_b_union : inT (.str "union") (.tuple [.str "near", .str "asof", .str "join"]) = some false := by decide +kernel
theorem iw_b_distinct : inT (.str "distinct") (.tuple [.str "near", .str "asof", .str "join"]) = some false := by decide +kernel
theorem iw_b_group : inT (.str "group") (.tuple [.str "near", .str "asof", .str "join"]) = some false := by decide +kernel
theorem iw_b_top : inT (.str "top") (.tuple [.str "near", .str "asof", .str "join"]) = some false := by decide +kernel
theorem iw_b_window : inT (.str "window") (.tuple [.str "near", .str "asof", .str "join"]) = some false := by decide +kernel
theorem iw_b_near : inT (.str "near") (.tuple [.str "near", .str "asof", .str "join"]) = some true := by decide +kernel
theorem iw_b_asof : inT (.str "asof") (.tuple [.str "near", .str "asof", .str "join"]) = some true := by decide +kernel
theorem iw_b_join : inT (.str "join") (.tuple [.str "near", .str "asof", .str "join"]) = some true := by decide +kernel
theorem iw_b_first : inT (.str "first") (.tuple [.str "near", .str "asof", .str "join"]) = some false := by decide +kernel
theorem iw_c_filter : inT (.str "filter") (.tuple [.str "group", .str "window"]) = some false := by decide +kernel
theorem iw_c_map : inT (.str "map") (.tuple [.str "group", .str "window"]) = some false := by decide +kernel
theorem iw_c_union : inT (.str "union") (.tuple [.str "group", .str "window"]) = some false := by decide +kernel
theorem iw_c_distinct : inT (.str "distinct") (.tuple [.str "group", .str "window"]) = some false := by decide +kernel
theorem iw_c_group : inT (.str "group") (.tuple [.str "group", .str "window"]) = some true := by decide +kernel
theorem iw_c_top : inT (.str "top") (.tuple [.str "group", .str "window"]) = some false := by decide +kernel
theorem iw_c_window : inT (.str "window") (.tuple [.str "group", .str "window"]) = some true := by decide +kernel
theorem iw_c_near : inT (.str "near") (.tuple [.str "group", .str "window"]) = some false := by decide +kernel
theorem iw_c_asof : inT (.str "asof") (.tuple [.str "group", .str "window"]) = some false := by decide +kernel
theorem iw_c_join : inT (.str "join") (.tuple [.str "group", .str "window"]) = some false := by decide +kernel
theorem iw_c_first : inT (.str "first") (.tuple [.str "group", .str "window"]) = some false := by decide +kernel
theorem iw_d_filter : inT (.str "filter") (.tuple [.str "window", .str "first", .str "asof"]) = some false := by decide +kernel
theorem iw_d_map : inT (.str "map") (.tuple [.str "window", .str "first", .str "asof"]) = some false := by decide +kernel
theorem iw_d_union : inT (.str "union") (.tuple [.str "window", .str "first", .str "asof"]) = some false := by decide +kernel
theorem iw_d_distinct : inT (.str "distinct") (.tuple [.str "window", .str "first", .str "asof"]) = some false := by decide +kernel
theorem iw_d_group : inT (.str "group") (.tuple [.str "window", .str "first", .str "asof"]) = some false := by decide +kernel
theorem iw_d_top : inT (.str "top") (.tuple [.str "window", .str "first", .str "asof"]) = some false := by decide +kernel
theorem iw_d_window : inT (.str "window") (.tuple [.str "window", .str "first", .str "asof"]) = some true := by decide +kernel
theorem iw_d_near : inT (.str "near") (.tuple [.str "window", .str "first", .str "asof"]) = some false := by decide +kernel
theorem iw_d_asof : inT (.str "asof") (.tuple [.str "window", .str "first", .str "asof"]) = some true := by decide +kernel
theorem iw_d_join : inT (.str "join") (.tuple [.str "window", .str "first", .str "asof"]) = some false := by decide +kernel
theorem iw_d_first : inT (.str "first") (.tuple [.str "window", .str "first", .str "asof"]) = some true := by decide +kernel
theorem iw_e_filter : inT (.str "filter") (.tuple [.str "filter", .str "map"]) = some true := by decide +kernel
theorem iw_e_map : inT (.str "map") (.tuple [.str "filter", .str "map"]) = some true := by decide +kernel
theorem iw_e_union : inT (.str "union") (.tuple [.str "filter", .str "map"]) = some false := by decide +kernel
theorem iw_e_distinct : inT (.str "distinct") (.tuple [.str "filter", .str "map"]) = some false := by decide +kernel
theorem iw_e_group : inT (.str "group") (.tuple [.str "filter", .str "map"]) = some false := by decide +kernel
theorem iw_e_top : inT (.str "top") (.tuple [.str "filter", .str "map"]) = some false := by decide +kernel
theorem iw_e_window : inT (.str "window") (.tuple [.str "filter", .str "map"]) = some false := by decide +kernel
theorem iw_e_near : inT (.str "near") (.tuple [.str "filter", .str "map"]) = some false := by decide +kernel
theorem iw_e_asof : inT (.str "asof") (.tuple [.str "filter", .str "map"]) = some false := by decide +kernel
theorem iw_e_join : inT (.str "join") (.tuple [.str "filter", .str "map"]) = some false := by decide +kernel
theorem iw_e_first : inT (.str "first") (.tuple [.str "filter", .str "map"]) = some false := by decide +kernel
theorem iw_f_distinct : inT (.str "distinct") (.tuple [.str "window", .str "near", .str "asof", .str "first"]) = some false := by decide +kernel
theorem iw_f_group : inT (.str "group") (.tuple [.str "window", .str "near", .str "asof", .str "first"]) = some false := by decide +kernel
theorem iw_f_top : inT (.str "top") (.tuple [.str "window", .str "near", .str "asof", .str "first"]) = some false := by decide +kernel
theorem iw_f_window : inT (.str "window") (.tuple [.str "window", .str "near", .str "asof", .str "first"]) = some true := by decide +kernel
theorem iw_f_near : inT (.str "near") (.tuple [.str "window", .str "near", .str "asof", .str "first"]) = some true := by decide +kernel
theorem iw_f_asof : inT (.str "asof") (.tuple [.str "window", .str "near", .str "asof", .str "first"]) = some true := by decide +kernel
theorem iw_f_join : inT (.str "join") (.tuple [.str "window", .str "near", .str "asof", .str "first"]) = some false := by decide +kernel
theorem iw_f_first : inT (.str "first") (.tuple [.str "window", .str "near", .str "asof", .str "first"]) = some true := by decide +kernel
theorem iw_g_filter : inT (.str "filter") (.tuple [.str "union", .str "near", .str "asof", .str "join"]) = some false := by decide +kernel
theorem iw_g_map : inT (.str "map") (.tuple [.str "union", .str "near", .str "asof", .str "join"]) = some false := by decide +kernel
theorem iw_g_union : inT (.str "union") (.tuple [.str "union", .str "near", .str "asof", .str "join"]) = some true := by decide +kernel
theorem iw_g_distinct : inT (.str "distinct") (.tuple [.str "union", .str "near", .str "asof", .str "join"]) = some false := by decide +kernel
theorem iw_g_group : inT (.str "group") (.tuple [.str "union", .str "near", .str "asof", .str "join"]) = some false := by decide +kernel
theorem iw_g_top : inT (.str "top") (.tuple [.str "union", .str "near", .str "asof", .str "join"]) = some false := by decide +kernel
theorem iw_g_window : inT (.str "window") (.tuple [.str "union", .str "near", .str "asof", .str "join"]) = some false := by decide +kernel
theorem iw_g_near : inT (.str "near") (.tuple [.str "union", .str "near", .str "asof", .str "join"]) = some true := by decide +kernel
theorem iw_g_asof : inT (.str "asof") (.tuple [.str "union", .str "near", .str "asof", .str "join"]) = some true := by decide +kernel
theorem iw_g_join : inT (.str "join") (.tuple [.str "union", .str "near", .str "asof", .str "join"]) = some true := by decide +kernel
theorem iw_g_first : inT (.str "first") (.tuple [.str "union", .str "near", .str "asof", .str "join"]) = some false := by decide +kernel
theorem iw_s_count : inT (.str "count") (.tuple [.str "sum", .str "mean"]) = some false := by decide +kernel
theorem iw_s_sum : inT (.str "sum") (.tuple [.str "sum", .str "mean"]) = some true := by decide +kernel
theorem iw_s_least : inT (.str "least") (.tuple [.str "sum", .str "mean"]) = some false := by decide +kernel
theorem iw_s_most : inT (.str "most") (.tuple [.str "sum", .str "mean"]) = some false := by decide +kernel
theorem iw_s_mean : inT (.str "mean") (.tuple [.str "sum", .str "mean"]) = some true := by decide +kernel
theorem iw_s_first : inT (.str "first") (.tuple [.str "sum", .str "mean"]) = some false := by decide +kernel
theorem iw_s_last : inT (.str "last") (.tuple [.str "sum", .str "mean"]) = some false := by decide +kernel
structure Ag where
  n : Str
  w : Str
  c : Option Str
def cD : Option Str → D
  | none => .none
  | some x => .str x
def agD (a : Ag) : D := .tuple [.str a.n, .str a.w, cD a.c]
inductive Op where
  | filter (c : Ex)
  | map (to : List (Str × Ex))
  | union
  | distinct
  | group (keys : List Str) (aggs : List Ag)
  | top (keys : List Str) (by_ : List (Str × Str)) (xn : D)
  | window (keys : List Str) (aggs : List Ag) (xW : D)
  | near (ps : List (Str × Str)) (xl xh xk : D)
  | asof (ps : List (Str × Str)) (xk : D)
  | join (ps : List (Str × Str))
  | first (keys : List Str) (xt : D)
def prS (p : Str × Str) : D := .tuple [.str p.1, .str p.2]
def toS (p : Str × Ex) : D := .tuple [.str p.1, exD p.2]
def byS (p : Str × Str) : D := .tuple [.str p.1, .str p.2]
def opD : Op → D
  | .filter c => .tuple [.str "filter", exD c]
  | .map to => .tuple [.str "map", .tuple (to.map toS)]
  | .union => .tuple [.str "union"]
  | .distinct => .tuple [.str "distinct"]
  | .group ks as => .tuple [.str "group", .tuple (ks.map PyData.str), .tuple (as.map agD)]
  | .top ks bs xn => .tuple [.str "top", .tuple (ks.map PyData.str), .tuple (bs.map byS), xn]
  | .window ks as xW => .tuple [.str "window", .tuple (ks.map PyData.str), xW, .tuple (as.map agD)]
  | .near ps xl xh xk => .tuple [.str "near", .tuple (ps.map prS), xl, xh, xk]
  | .asof ps xk => .tuple [.str "asof", .tuple (ps.map prS), xk]
  | .join ps => .tuple [.str "join", .tuple (ps.map prS)]
  | .first ks xt => .tuple [.str "first", .tuple (ks.map PyData.str), xt]
def two : Op → Bool
  | .union => true
  | .near _ _ _ _ => true
  | .asof _ _ => true
  | .join _ => true
  | _ => false
def aggC (as : List Ag) : List Str := as.filterMap (·.c)
/-- the columns that are named, by side -/
def nmd : Op → List (Bool × Str)
  | .group ks as => ks.map (fun x => (false, x)) ++ (aggC as).map fun x => (false, x)
  | .top ks bs xn => ks.map (fun x => (false, x)) ++ bs.map fun x => (false, x.1)
  | .window ks as xW => ks.map (fun x => (false, x)) ++ (aggC as).map fun x => (false, x)
  | .near ps xl xh xk => ps.flatMap fun p => [(false, p.1), (true, p.2)]
  | .asof ps xk => ps.flatMap fun p => [(false, p.1), (true, p.2)]
  | .join ps => ps.flatMap fun p => [(false, p.1), (true, p.2)]
  | .first ks xt => ks.map fun x => (false, x)
  | _ => []
/-- the first that is missing -/
def miss (F0 F1 : Fs) : List (Bool × Str) → Option Str
  | [] => none
  | (b, x) :: l => if (lookK (if b = true then F1 else F0) x).isNone = true then some x else miss F0 F1 l
theorem miss_app {F0 F1 : Fs} : ∀ {l m : List (Bool × Str)}, miss F0 F1 (l ++ m) = (match miss F0 F1 l with | some x => some x | none => miss F0 F1 m)
  | [], m => rfl
  | (b, x) :: l, m => by
    rw [List.cons_append, miss, miss]
    by_cases h : (lookK (if b = true then F1 else F0) x).isNone = true
    · rw [if_pos h, if_pos h]
    · rw [if_neg h, if_neg h, miss_app]
def okX : Option Str → D ⊕ Xc
  | none => .inl .none
  | some x => .inr ⟨"InvalidOperator", noC x⟩
def flD (o : Op) (F0 F1 : Fs) : D := .list (if two o = true then [tpF F0, tpF F1] else [tpF F0])
theorem tin_none {ps : Fs} {x : Str} (h : (lookK ps x).isNone = true) : tin ps x = .inr ⟨"InvalidOperator", noC x⟩ := by
  unfold tin
  cases q : lookK ps x with
  | none => rfl
  | some k => rw [q] at h; cases h
theorem tin_some {ps : Fs} {x : Str} (h : ¬ (lookK ps x).isNone = true) : ∃ k, lookK ps x = some k ∧ tin ps x = .inl (.str k) := by
  unfold tin
  cases q : lookK ps x with
  | none => rw [q] at h; exact absurd rfl h
  | some k => exact ⟨k, rfl, rfl⟩
section
variable {F0 F1 : Fs} {opd fl w : D} {S : Fl → Dn.Env → Prop} {R : Xc → Dn.Env → Prop}
theorem key_loop (h0 : ixD fl (.int 0) = some (tpF F0)) : ∀ (ks : List Str) (o3 o4 o5 o6 o7 o8 : Option Cell), canSet (some o3) = some () → (∀ x ∈ ks, x.length ≤ 1000) →
    (match miss F0 F1 (ks.map fun x => (false, x)) with | none => ∀ o3 : Option Cell, canSet (some o3) = some () → S .nx [some (.val opd), some (.val fl), some (.val w), o3, o4, o5, o6, o7, o8] | some x => ∀ ρ, R ⟨"InvalidOperator", noC x⟩ ρ) →
    Wx (forX (gTN 3) (xDrop (xCall f_type_in (xOk (gCons (gBin ixD (gVar 1) (gC (.int 0))) (gCons (gVar 3) gNil))))) (ks.map PyData.str)) [some (.val opd), some (.val fl), some (.val w), o3, o4, o5, o6, o7, o8] S R
  | [], o3, o4, o5, o6, o7, o8, h3, _, h => by
    rw [List.map_nil, forx_nil]
    exact h o3 h3
  | x :: ks, o3, o4, o5, o6, o7, o8, h3, hl, h => by
    rw [List.map_cons, forx_cons]
    rw [List.map_cons, miss] at h
    have ht := sp_type_in (ps := F0) (hl x List.mem_cons_self)
    by_cases q : (lookK (if false = true then F1 else F0) x).isNone = true
    · rw [if_pos q] at h
      have e : tin F0 x = .inr ⟨"InvalidOperator", noC x⟩ := tin_none q
      rw [e] at ht
      simp! [h3, h0, ht]
      exact h _
    · rw [if_neg q] at h
      obtain ⟨k, _, e⟩ := tin_some q
      have e : tin F0 x = .inl (.str k) := e
      rw [e] at ht
      simp! [h3, h0, ht, turnx_nx]
      exact key_loop h0 ks _ o4 o5 o6 o7 o8 rfl (fun y hy => hl y (List.mem_cons_of_mem _ hy)) h
theorem by_loop (h0 : ixD fl (.int 0) = some (tpF F0)) : ∀ (ks : List (Str × Str)) (o3 o4 o5 o6 o7 o8 : Option Cell), canSet (some o3) = some () → canSet (some o4) = some () → (∀ x ∈ ks, x.1.length ≤ 1000) →
    (match miss F0 F1 (ks.map fun x => (false, x.1)) with | none => ∀ o3 o4 : Option Cell, canSet (some o3) = some () → canSet (some o4) = some () → S .nx [some (.val opd), some (.val fl), some (.val w), o3, o4, o5, o6, o7, o8] | some x => ∀ ρ, R ⟨"InvalidOperator", noC x⟩ ρ) →
    Wx (forX (gTTup 2 (gTCons (gTN 3) (gTCons (gTN 4) gTNil))) (xDrop (xCall f_type_in (xOk (gCons (gBin ixD (gVar 1) (gC (.int 0))) (gCons (gVar 3) gNil))))) (ks.map byS)) [some (.val opd), some (.val fl), some (.val w), o3, o4, o5, o6, o7, o8] S R
  | [], o3, o4, o5, o6, o7, o8, h3, h4, _, h => by
    rw [List.map_nil, forx_nil]
    exact h o3 o4 h3 h4
  | x :: ks, o3, o4, o5, o6, o7, o8, h3, h4, hl, h => by
    rw [List.map_cons, forx_cons]
    rw [List.map_cons, miss] at h
    have ht := sp_type_in (ps := F0) (hl x List.mem_cons_self)
    have eb : byS x = .tuple [.str x.1, .str x.2] := rfl
    by_cases q : (lookK (if false = true then F1 else F0) x.1).isNone = true
    · rw [if_pos q] at h
      have e : tin F0 x.1 = .inr ⟨"InvalidOperator", noC x.1⟩ := tin_none q
      rw [e] at ht
      simp! [h3, h4, h0, ht, eb]
      exact h _
    · rw [if_neg q] at h
      obtain ⟨k, _, e⟩ := tin_some q
      have e : tin F0 x.1 = .inl (.str k) := e
      rw [e] at ht
      simp! [h3, h4, h0, ht, eb, turnx_nx]
      exact by_loop h0 ks _ _ o5 o6 o7 o8 rfl rfl (fun y hy => hl y (List.mem_cons_of_mem _ hy)) h
theorem pr_loop (h0 : ixD fl (.int 0) = some (tpF F0)) (h1 : ixD fl (.int 1) = some (tpF F1)) : ∀ (ks : List (Str × Str)) (o3 o4 o5 o6 o7 o8 : Option Cell), canSet (some o5) = some () → canSet (some o6) = some () → (∀ x ∈ ks, x.1.length ≤ 1000 ∧ x.2.length ≤ 1000) →
    (match miss F0 F1 (ks.flatMap fun p => [(false, p.1), (true, p.2)]) with | none => ∀ o5 o6 : Option Cell, canSet (some o5) = some () → canSet (some o6) = some () → S .nx [some (.val opd), some (.val fl), some (.val w), o3, o4, o5, o6, o7, o8] | some x => ∀ ρ, R ⟨"InvalidOperator", noC x⟩ ρ) →
    Wx (forX (gTTup 2 (gTCons (gTN 5) (gTCons (gTN 6) gTNil))) (xSeq (xDrop (xCall f_type_in (xOk (gCons (gBin ixD (gVar 1) (gC (.int 0))) (gCons (gVar 5) gNil)))))
  (xDrop (xCall f_type_in (xOk (gCons (gBin ixD (gVar 1) (gC (.int 1))) (gCons (gVar 6) gNil)))))) (ks.map prS)) [some (.val opd), some (.val fl), some (.val w), o3, o4, o5, o6, o7, o8] S R
  | [], o3, o4, o5, o6, o7, o8, h5, h6, _, h => by
    rw [List.map_nil, forx_nil]
    exact h o5 o6 h5 h6
  | x :: ks, o3, o4, o5, o6, o7, o8, h5, h6, hl, h => by
    rw [List.map_cons, forx_cons]
    rw [List.flatMap_cons, List.cons_append, List.cons_append, List.nil_append, miss] at h
    have ht := sp_type_in (ps := F0) (hl x List.mem_cons_self).1
    have ht2 := sp_type_in (ps := F1) (hl x List.mem_cons_self).2
    have eb : prS x = .tuple [.str x.1, .str x.2] := rfl
    by_cases q : (lookK (if false = true then F1 else F0) x.1).isNone = true
    · rw [if_pos q] at h
      have e : tin F0 x.1 = .inr ⟨"InvalidOperator", noC x.1⟩ := tin_none q
      rw [e] at ht
      simp! [h5, h6, h0, ht, eb]
      exact h _
    · rw [if_neg q, miss] at h
      obtain ⟨k, _, e⟩ := tin_some q
      have e : tin F0 x.1 = .inl (.str k) := e
      rw [e] at ht
      by_cases q2 : (lookK (if true = true then F1 else F0) x.2).isNone = true
      · rw [if_pos q2] at h
        have e2 : tin F1 x.2 = .inr ⟨"InvalidOperator", noC x.2⟩ := tin_none q2
        rw [e2] at ht2
        simp! [h5, h6, h0, h1, ht, ht2, eb]
        exact h _
      · rw [if_neg q2] at h
        obtain ⟨k2, _, e2⟩ := tin_some q2
        have e2 : tin F1 x.2 = .inl (.str k2) := e2
        rw [e2] at ht2
        simp! [h5, h6, h0, h1, ht, ht2, eb, turnx_nx]
        exact pr_loop h0 h1 ks o3 o4 _ _ o7 o8 rfl rfl (fun y hy => hl y (List.mem_cons_of_mem _ hy)) h
theorem ag_loop (h0 : ixD fl (.int 0) = some (tpF F0)) : ∀ (as : List Ag) (o3 o4 o5 o6 o7 o8 : Option Cell), canSet (some o3) = some () → canSet (some o7) = some () → canSet (some o8) = some () → (∀ a ∈ as, ∀ x, a.c = some x → x.length ≤ 1000) →
    (match miss F0 F1 ((aggC as).map fun x => (false, x)) with | none => ∀ o3 o7 o8 : Option Cell, canSet (some o3) = some () → canSet (some o7) = some () → canSet (some o8) = some () → S .nx [some (.val opd), some (.val fl), some (.val w), o3, o4, o5, o6, o7, o8] | some x => ∀ ρ, R ⟨"InvalidOperator", noC x⟩ ρ) →
    Wx (forX (gTTup 3 (gTCons (gTN 3) (gTCons (gTN 7) (gTCons (gTN 8) gTNil)))) (xIf (xOk (gTst (gBin isntD (gVar 8) (gC .none)))) (xDrop (xCall f_type_in (xOk (gCons (gBin ixD (gVar 1) (gC (.int 0))) (gCons (gVar 8) gNil))))) (xOk sNext)) (as.map agD)) [some (.val opd), some (.val fl), some (.val w), o3, o4, o5, o6, o7, o8] S R
  | [], o3, o4, o5, o6, o7, o8, h3, h7, h8, _, h => by
    rw [List.map_nil, forx_nil]
    exact h o3 o7 o8 h3 h7 h8
  | ⟨an, aw, none⟩ :: as, o3, o4, o5, o6, o7, o8, h3, h7, h8, hl, h => by
    rw [List.map_cons, forx_cons]
    have eb : agD ⟨an, aw, none⟩ = .tuple [.str an, .str aw, .none] := rfl
    simp! [h3, h7, h8, h0, eb, turnx_nx]
    exact ag_loop h0 as _ o4 o5 o6 _ _ rfl rfl rfl (fun y hy => hl y (List.mem_cons_of_mem _ hy)) h
  | ⟨an, aw, some x⟩ :: as, o3, o4, o5, o6, o7, o8, h3, h7, h8, hl, h => by
    rw [List.map_cons, forx_cons]
    have ec : aggC (⟨an, aw, some x⟩ :: as) = x :: aggC as := rfl
    rw [ec, List.map_cons, miss] at h
    have ht := sp_type_in (ps := F0) (hl _ List.mem_cons_self x rfl)
    have eb : agD ⟨an, aw, some x⟩ = .tuple [.str an, .str aw, .str x] := rfl
    by_cases q : (lookK (if false = true then F1 else F0) x).isNone = true
    · rw [if_pos q] at h
      have e : tin F0 x = .inr ⟨"InvalidOperator", noC x⟩ := tin_none q
      rw [e] at ht
      simp! [h3, h7, h8, h0, ht, eb]
      exact h _
    · rw [if_neg q] at h
      obtain ⟨k, _, e⟩ := tin_some q
      have e : tin F0 x = .inl (.str k) := e
      rw [e] at ht
      simp! [h3, h7, h8, h0, ht, eb, turnx_nx]
      exact ag_loop h0 as _ o4 o5 o6 _ _ rfl rfl rfl (fun y hy => hl y (List.mem_cons_of_mem _ hy)) h
end
/-- all texts within are short -/
def short : Op → Prop
  | .filter c => hgt c ≤ 6 ∧ wfE [] c
  | .map to => ∀ p ∈ to, p.1.length ≤ 1000 ∧ hgt p.2 ≤ 6 ∧ wfE [] p.2
  | .group ks as => (∀ x ∈ ks, x.length ≤ 1000) ∧ ∀ a ∈ as, a.n.length ≤ 1000 ∧ ∀ x, a.c = some x → x.length ≤ 1000
  | .top ks bs xn => (∀ x ∈ ks, x.length ≤ 1000) ∧ ∀ x ∈ bs, x.1.length ≤ 1000
  | .window ks as xW => (∀ x ∈ ks, x.length ≤ 1000) ∧ ∀ a ∈ as, a.n.length ≤ 1000 ∧ ∀ x, a.c = some x → x.length ≤ 1000
  | .near ps xl xh xk => ∀ p ∈ ps, p.1.length ≤ 1000 ∧ p.2.length ≤ 1000
  | .asof ps xk => ∀ p ∈ ps, p.1.length ≤ 1000 ∧ p.2.length ≤ 1000
  | .join ps => ∀ p ∈ ps, p.1.length ≤ 1000 ∧ p.2.length ≤ 1000
  | .first ks xt => ∀ x ∈ ks, x.length ≤ 1000
  | _ => True
theorem sp_check_columns {o : Op} {F0 F1 : Fs} (hs : short o) : f_check_columns [opD o, flD o F0 F1] = some (okX (miss F0 F1 (nmd o))) := by
  rw [← wo_eq]
  unfold f_check_columns
  rw [wo_runX]
  show Wx g_check_columns [some (.val (opD o)), some (.val (flD o F0 F1)), none, none, none, none, none, none, none] _ _
  unfold g_check_columns
  cases o with
  | filter c => simp! [opD, flD, str_iff, String.reduceEq, iw_a_filter, iw_b_filter, iw_c_filter, nmd, miss, okX]
  | map to => simp! [opD, flD, str_iff, String.reduceEq, iw_a_map, iw_b_map, iw_c_map, nmd, miss, okX]
  | union => simp! [opD, flD, str_iff, String.reduceEq, iw_a_union, iw_b_union, iw_c_union, nmd, miss, okX]
  | distinct => simp! [opD, flD, str_iff, String.reduceEq, iw_a_distinct, iw_b_distinct, iw_c_distinct, nmd, miss, okX]
  | first ks xt =>
    simp! [opD, flD, two, str_iff, String.reduceEq, iw_a_first, iw_b_first, iw_c_first, nmd]
    refine key_loop (F0 := F0) (F1 := F1) rfl ks none none none none none none rfl hs ?_
    cases hm : miss F0 F1 (ks.map fun x => (false, x)) with
    | none =>
      intro o3 h3
      simp! [str_iff, String.reduceEq, iw_b_first, iw_c_first, okX]
    | some x => exact fun ρ => rfl
  | near ps xl xh xk =>
    simp! [opD, flD, two, str_iff, String.reduceEq, iw_a_near, iw_b_near, iw_c_near, nmd]
    refine pr_loop (F0 := F0) (F1 := F1) rfl rfl ps none none none none none none rfl rfl hs ?_
    cases hm : miss F0 F1 (ps.flatMap fun p => [(false, p.1), (true, p.2)]) with
    | none =>
      intro o5 o6 h5 h6
      simp! [str_iff, String.reduceEq, iw_c_near, okX]
    | some x => exact fun ρ => rfl
  | asof ps xk =>
    simp! [opD, flD, two, str_iff, String.reduceEq, iw_a_asof, iw_b_asof, iw_c_asof, nmd]
    refine pr_loop (F0 := F0) (F1 := F1) rfl rfl ps none none none none none none rfl rfl hs ?_
    cases hm : miss F0 F1 (ps.flatMap fun p => [(false, p.1), (true, p.2)]) with
    | none =>
      intro o5 o6 h5 h6
      simp! [str_iff, String.reduceEq, iw_c_asof, okX]
    | some x => exact fun ρ => rfl
  | join ps =>
    simp! [opD, flD, two, str_iff, String.reduceEq, iw_a_join, iw_b_join, iw_c_join, nmd]
    refine pr_loop (F0 := F0) (F1 := F1) rfl rfl ps none none none none none none rfl rfl hs ?_
    cases hm : miss F0 F1 (ps.flatMap fun p => [(false, p.1), (true, p.2)]) with
    | none =>
      intro o5 o6 h5 h6
      simp! [str_iff, String.reduceEq, iw_c_join, okX]
    | some x => exact fun ρ => rfl
  | top ks bs xn =>
    simp! [opD, flD, two, str_iff, String.reduceEq, iw_a_top, iw_b_top, iw_c_top, nmd]
    rw [miss_app]
    refine key_loop (F0 := F0) (F1 := F1) rfl ks none none none none none none rfl hs.1 ?_
    cases hm : miss F0 F1 (ks.map fun x => (false, x)) with
    | some x => exact fun ρ => rfl
    | none =>
      intro o3 h3
      simp! [str_iff, String.reduceEq, iw_b_top, iw_c_top]
      refine by_loop (F0 := F0) (F1 := F1) rfl bs _ none none none none none h3 rfl hs.2 ?_
      cases hm : miss F0 F1 (bs.map fun x => (false, x.1)) with
      | none =>
        intro o3 o4 h3 h4
        simp! [str_iff, String.reduceEq, iw_b_top, iw_c_top, okX]
      | some x => exact fun ρ => rfl
  | group ks as =>
    simp! [opD, flD, two, str_iff, String.reduceEq, iw_a_group, iw_b_group, iw_c_group, nmd]
    rw [miss_app]
    refine key_loop (F0 := F0) (F1 := F1) rfl ks none none none none none none rfl hs.1 ?_
    cases hm : miss F0 F1 (ks.map fun x => (false, x)) with
    | some x => exact fun ρ => rfl
    | none =>
      intro o3 h3
      simp! [str_iff, String.reduceEq, iw_b_group, iw_c_group]
      refine ag_loop (F0 := F0) (F1 := F1) rfl as _ none none none none none h3 rfl rfl (fun a ha => (hs.2 a ha).2) ?_
      cases hm : miss F0 F1 ((aggC as).map fun x => (false, x)) with
      | none =>
        intro o3 o7 o8 h3 h7 h8
        simp! [okX]
      | some x => exact fun ρ => rfl
  | window ks as xW =>
    simp! [opD, flD, two, str_iff, String.reduceEq, iw_a_window, iw_b_window, iw_c_window, nmd]
    rw [miss_app]
    refine key_loop (F0 := F0) (F1 := F1) rfl ks none none none none none none rfl hs.1 ?_
    cases hm : miss F0 F1 (ks.map fun x => (false, x)) with
    | some x => exact fun ρ => rfl
    | none =>
      intro o3 h3
      have i4 : ixA [PyData.str "window", .tuple (ks.map PyData.str), xW, .tuple (as.map agD)] (-1) = some (.tuple (as.map agD)) := rfl
      simp! [str_iff, String.reduceEq, iw_b_window, iw_c_window, i4]
      refine ag_loop (F0 := F0) (F1 := F1) rfl as _ none none none none none h3 rfl rfl (fun a ha => (hs.2 a ha).2) ?_
      cases hm : miss F0 F1 ((aggC as).map fun x => (false, x)) with
      | none =>
        intro o3 o7 o8 h3 h7 h8
        simp! [okX]
      | some x => exact fun ρ => rfl
end Lw
set_option maxHeartbeats 4000000
namespace Lw
open PySem Dn Dm DnSo
local macro_rules | `(tactic| simp! [$xs,*]) => `(tactic| simp (maxSteps := 4000000) only [backE, wipeE, wo_some, wo_none, wm_c, wm_var, wm_frz, wm_bin, wm_un, wm_tst, wm_tru, wm_truB, wm_chain, wm_and, wm_or, wm_not, wm_andV, wm_orV, wm_notV, wm_ifE, wm_nil, wm_cons, wm_app, wm_noP, wm_part, wm_sl, wm_pk, wm_io, wm_ix, wm_inB, wm_true, wm_seq, wm_rng1, wm_rng2,
    then_nx, then_ret, then_rof, then_brk, then_cnt, ws_next, ws_brk, ws_cnt, ws_seq, ws_if, ws_ret, ws_rof, ws_drop, ws_set, ws_own, ws_asg, wo_TN, wo_TNil, wo_TCons, wo_TTup, ws_ap, ws_setIx, ws_for, for_nil, turn_nx, turn_cnt, turn_brk, turn_ret, turn_rof, wm_lc, end_ret, end_nx, end_rof, end_io, ownOf_own, valOf_val, frz_val, frz_own, frz_ownD, ixO_l, ixO_d, cOwn_own, peek_val, peek_own, peek_ownD, by_val, by_own, canSet_none, canSet_val, canSet_own, lstOf_list,
    List.getElem?_cons_zero, List.getElem?_cons_succ, List.set_cons_zero, List.set_cons_succ, List.length_cons, List.length_nil, wo_ite, wo_bind, ↓reduceIte, and_true, true_and, and_self, Bool.false_eq_true, Bool.not_true, Bool.not_false, decide_eq_true_eq, decide_true, decide_false, oneInt_int, twoInts_int,
    add_ii, add_ll, add_tt, add_ss, sub_ii, mul_ii, mulS_ii, mod_ii, fdiv_ii, neg_i, le_ii, gt_ii, ge_ii, eqT_ii, eqT_ss, eqT_bb, eqT_nn, ltT_ii, ltT_ss, wo_eqD, wo_neD, wo_ltD, wo_inD, wo_ninD, is_n, isnt_n, is_bb, isnt_bb, isN, bOf_b, iOf_i, tru_b, tru_n, tru_i, tru_l, tru_t, seq_l, seq_t, tup_l, tup_t, lst_l, lst_t, len_l, len_t, int_i, int_b, abs_i, max_ii, min_ii, ix_li, ix_ti, cut_l, cut_t, flat_i, flat_b, flat_s, ix0, ix1, ix2, mkTup, mkLst,
    add2_ll, ws_par3, three_c, ws_grp, empty_own, lOwnD_own, wm_lcW, wm_getD, wm_ind, ix3, ix4, ix_m2, ix_m1, ix_p2, ix_p1, wm_newD, ws_setK, wm_get, wm_ixK, wm_sortN, ws_ext, dOwn_own, lOwn_own, lsD_list, step_nx, step_cnt, step_brk, step_ret, step_rof, wm_reve, rev_l, rev_t, wm_opBL, repr_l, sort_l, sum_l, wm_enum, enum_l, enum_t, enumL_nil, wm_dic, wm_kvn, wm_kvc, seq_s, mulT_si, len_s, ord_c, str_i, ty_d, k_lb, k_li, k_ls, k_tb, k_ti, k_ts, k_db, k_di, k_ds, k_lt, k_tl,
    isi_1, tyOk_n, tyOk_b, tyOk_i, tyOk_s, tyOk_l, tyOk_t, ty_n, ty_b, ty_i, ty_s, ty_l, ty_t, k_nb, k_bb, k_ib, k_sb, k_ni, k_bi, k_ii, k_si, k_ns, k_bs, k_is, k_ss, k_ll, k_tt,
    Int.reduceNeg, Int.reducePow, Int.reduceLT, Int.reduceLE, Int.reduceAdd, Int.reduceSub, Int.reduceMul, Int.reduceToNat, Nat.reduceAdd, Nat.reduceLeDiff, Nat.reduceEqDiff, Int.reduceEq, reduceCtorEq, ws_grpL, empty_ownL, wo_TLst, wg_P, wg_end, wg_then, theng_nx, wg_yield, wm_callG, wo_runG, List.nil_append, wx_okD, wx_okL, wx_okB, wx_okS, wx_cons, wx_call, wx_app, wx_bin, wx_tst, wx_not, wx_ite, thenx_nx, thenx_ret, thenx_rof, thenx_brk, thenx_cnt, wx_seq, wx_if, wx_ret, wx_drop, wx_set, wx_apd, ownL_own, wx_raise, strOf_s, wx_for, ws_noX, wx_tryA, wx_try, retq_ret, either_l, either_r, endq_nx, endq_ret, hL_hd, gL_hd, wo_runX, wx_own, wl_nil, wl_cons, wx_lc, wm_keys, wm_callIOF, $xs,*])
def tyOf (F : Fs) (x : Str) : Str := (lookK F x).getD ""
theorem tin_ok {F : Fs} {x : Str} (h : (lookK F x).isNone = false) : tin F x = .inl (.str (tyOf F x)) := by
  unfold tin tyOf
  cases q : lookK F x with
  | none => rw [q] at h; cases h
  | some k => rfl
theorem miss_none {F0 F1 : Fs} : ∀ {l : List (Bool × Str)}, miss F0 F1 l = none → ∀ p ∈ l, (lookK (if p.1 = true then F1 else F0) p.2).isNone = false
  | [], _, p, hp => by cases hp
  | (b, x) :: l, h, p, hp => by
    rw [miss] at h
    by_cases q : (lookK (if b = true then F1 else F0) x).isNone = true
    · rw [if_pos q] at h; cases h
    · rw [if_neg q] at h
      rcases List.mem_cons.mp hp with rfl | hp
      · exact Bool.eq_false_iff.mpr q
      · exact miss_none h p hp
def difP (F0 F1 : Fs) (ps : List (Str × Str)) : Bool := ps.any fun p => decide (tyOf F0 p.1 ≠ tyOf F1 p.2)
def okD (b : Bool) : D ⊕ Xc := if b = true then .inr ⟨"InvalidOperator", differS⟩ else .inl .none
theorem okD_t : okD true = .inr ⟨"InvalidOperator", differS⟩ := rfl
theorem okD_f : okD false = .inl .none := rfl
theorem sp_check_pairs {F0 F1 : Fs} {ps : List (Str × Str)} (hl : ∀ p ∈ ps, p.1.length ≤ 1000 ∧ p.2.length ≤ 1000) (hm : ∀ p ∈ ps, (lookK F0 p.1).isNone = false ∧ (lookK F1 p.2).isNone = false) : f_check_pairs [.tuple (ps.map prS), .list [tpF F0, tpF F1]] = some (okD (difP F0 F1 ps)) := by
  rw [← wo_eq]
  unfold f_check_pairs
  rw [wo_runX]
  show Wx g_check_pairs [some (.val (.tuple (ps.map prS))), some (.val (.list [tpF F0, tpF F1])), none, none] _ _
  unfold g_check_pairs
  simp! []
  refine wx_forA prS (fun p ρ => ∃ (o2 o3 : Option Cell), (canSet (some o2) = some () ∧ canSet (some o3) = some ()) ∧ difP F0 F1 p = false ∧ ρ = [some (.val (.tuple (ps.map prS))), some (.val (.list [tpF F0, tpF F1])), o2, o3]) ⟨none, none, ⟨rfl, rfl⟩, rfl, rfl⟩ ?_ ?_
  · rintro p x q ρ e ⟨o2, o3, ⟨h2, h3⟩, hp, rfl⟩
    have hx : x ∈ ps := by rw [e]; simp
    obtain ⟨l1, l2⟩ := hl x hx
    obtain ⟨m1, m2⟩ := hm x hx
    have t1 := sp_type_in (ps := F0) l1
    have t2 := sp_type_in (ps := F1) l2
    rw [tin_ok m1] at t1
    rw [tin_ok m2] at t2
    have eb : prS x = .tuple [.str x.1, .str x.2] := rfl
    by_cases c : tyOf F0 x.1 = tyOf F1 x.2
    · rw [c] at t1
      simp! [h2, h3, t1, t2, eb]
      refine ⟨_, _, ⟨rfl, rfl⟩, ?_, rfl⟩
      unfold difP at hp ⊢
      rw [List.any_append, hp]
      simp [c]
    · have ed : difP F0 F1 ps = true := by
        unfold difP
        rw [List.any_eq_true]
        exact ⟨x, hx, by simpa using c⟩
      simp! [h2, h3, t1, t2, eb, c, sp_differ]
      rw [ed, okD_t]
  · rintro ρ' ⟨o2, o3, ⟨h2, h3⟩, hp, rfl⟩
    simp! []
    rw [hp, okD_f]
/-- the type that a map's column has -/
def tyK : Ty → Str
  | .inl (some k) => k
  | _ => "flag"
def fltM (F : Fs) : List (Str × Ex) → Option Str
  | [] => none
  | p :: ps => match ty F p.2 with
    | .inr m => some m
    | .inl _ => fltM F ps
theorem fltM_app {F : Fs} : ∀ {l m : List (Str × Ex)}, fltM F l = none → fltM F (l ++ m) = fltM F m
  | [], m, _ => rfl
  | p :: l, m, h => by
    rw [List.cons_append, fltM]
    rw [fltM] at h
    cases q : ty F p.2 with
    | inr x => rw [q] at h; cases h
    | inl x =>
      rw [q] at h
      exact fltM_app h
theorem sp_mapped {F0 : Fs} {to : List (Str × Ex)} (hl : ∀ p ∈ to, p.1.length ≤ 1000 ∧ hgt p.2 ≤ 6 ∧ wfE [] p.2) (hz : to.length ≤ 1000) : f_mapped [.tuple (to.map toS), tpF F0] = some (match fltM F0 to with | some x => .inr ⟨"InvalidOperator", x⟩ | none => .inl (.list ((to.map fun p => (p.1, tyK (ty F0 p.2))).map fdD))) := by
  rw [← wo_eq]
  unfold f_mapped
  rw [wo_runX]
  show Wx g_mapped [some (.val (.tuple (to.map toS))), some (.val (tpF F0)), none, none, none, none] _ _
  unfold g_mapped
  simp! []
  refine wx_forA toS (fun p ρ => ∃ (o3 o4 o5 : Option Cell), (canSet (some o3) = some () ∧ canSet (some o4) = some () ∧ canSet (some o5) = some ()) ∧ fltM F0 p = none ∧ ρ = [some (.val (.tuple (to.map toS))), some (.val (tpF F0)), some (.own false (.list ((p.map fun p => (p.1, tyK (ty F0 p.2))).map fdD))), o3, o4, o5]) ⟨none, none, none, ⟨rfl, rfl, rfl⟩, rfl, rfl⟩ ?_ ?_
  · rintro p x q ρ e ⟨o3, o4, o5, ⟨h3, h4, h5⟩, hp, rfl⟩
    have hx : x ∈ to := by rw [e]; simp
    have hpl := congrArg List.length e
    rw [List.length_append, List.length_cons] at hpl
    obtain ⟨l1, l2, l3⟩ := hl x hx
    have t1 : f_type_of [exD x.2, tpF F0] = some (tyX (ty F0 x.2)) := sp_type_of (ps := F0) x.2 6 l2 l3
    have eb : toS x = .tuple [.str x.1, exD x.2] := rfl
    cases m : ty F0 x.2 with
    | inr y =>
      have em : fltM F0 to = some y := by
        rw [e, fltM_app hp, fltM, m]
      rw [m, tyX_r] at t1
      simp! [h3, h4, h5, t1, eb]
      rw [em]
    | inl y =>
      have em : fltM F0 (p ++ [x]) = none := by
        rw [fltM_app hp, fltM, m]
        rfl
      rw [m, tyX_l] at t1
      cases y with
      | none =>
        have e0 : tD none = .none := rfl
        rw [e0] at t1
        simp! [h3, h4, h5, t1, eb, List.length_map, wm_ifE]
        exact ⟨by omega, some (.val (.str x.1)), some (.val (exD x.2)), some (.val .none), ⟨rfl, rfl, rfl⟩, em, by rw [List.map_append, List.map_append]; simp [m, tyK, fdD]⟩
      | some k =>
        have e0 : tD (some k) = .str k := rfl
        rw [e0] at t1
        simp! [h3, h4, h5, t1, eb, List.length_map, wm_ifE]
        exact ⟨by omega, some (.val (.str x.1)), some (.val (exD x.2)), some (.val (.str k)), ⟨rfl, rfl, rfl⟩, em, by rw [List.map_append, List.map_append]; simp [m, tyK, fdD]⟩
  · rintro ρ' ⟨o3, o4, o5, ⟨h3, h4, h5⟩, hp, rfl⟩
    simp! []
    rw [hp]
/-- an aggregate's type, as the program has it -/
def sm (w : Str) : Bool := decide (w = "sum") || decide (w = "mean")
def okA (F : Fs) (a : Ag) : Prop := a.w ∈ (["count", "sum", "least", "most", "mean", "first", "last"] : List Str) ∧ (a.w ≠ "count" → ∃ x, a.c = some x) ∧ ∀ x, a.c = some x → x.length ≤ 1000 ∧ (lookK F x).isNone = false
def agT (F : Fs) (a : Ag) : Str := match a.c with
  | none => "whole"
  | some x => if a.w = "count" then "whole" else tyOf F x
def agB (F : Fs) (a : Ag) : Bool := match a.c with
  | none => false
  | some x => sm a.w && decide (tyOf F x ≠ "whole")
theorem sp_agg_type {F : Fs} {a : Ag} (h : okA F a) : f_aggregate_type [.str a.w, cD a.c, tpF F] = some (if agB F a = true then .inr ⟨"InvalidOperator", differS⟩ else .inl (.str (agT F a))) := by
  rw [← wo_eq]
  unfold f_aggregate_type
  rw [wo_runX]
  obtain ⟨w, hc, hx⟩ := h
  obtain ⟨an, aw, ac⟩ := a
  show Wx g_aggregate_type [some (.val (.str aw)), some (.val (cD ac)), some (.val (tpF F)), none] _ _
  unfold g_aggregate_type agB agT
  by_cases c0 : aw = "count"
  · subst c0
    have s0 : sm "count" = false := by decide
    cases ac with
    | none => simp! [str_iff, String.reduceEq]
              try simp
    | some x => simp! [str_iff, String.reduceEq, s0, Bool.false_and]
                try simp
  · obtain ⟨x, ex⟩ := hc c0
    have ex : ac = some x := ex
    subst ex
    obtain ⟨l, m⟩ := hx x rfl
    have t1 := sp_type_in (ps := F) l
    rw [tin_ok m] at t1
    have ec : cD (some x) = .str x := rfl
    simp only [List.mem_cons, List.not_mem_nil, or_false] at w
    by_cases cw : tyOf F x = "whole"
    · rcases w with rfl | rfl | rfl | rfl | rfl | rfl | rfl <;> first | exact absurd rfl c0 | (simp! [str_iff, String.reduceEq, ec, t1, iw_s_sum, iw_s_least, iw_s_most, iw_s_mean, iw_s_first, iw_s_last, cw, sp_differ]; try simp [sm, str_iff])
    · rcases w with rfl | rfl | rfl | rfl | rfl | rfl | rfl <;> first | exact absurd rfl c0 | (simp! [str_iff, String.reduceEq, ec, t1, iw_s_sum, iw_s_least, iw_s_most, iw_s_mean, iw_s_first, iw_s_last, cw, sp_differ]; try simp [sm, str_iff, cw])
theorem lc_keys {F : Fs} {opd : D} {Q : List D → Dn.Env → Prop} {R : Xc → Dn.Env → Prop} : ∀ (ks : List Str), (∀ x ∈ ks, x.length ≤ 1000 ∧ (lookK F x).isNone = false) → Q ((ks.map fun x => (x, tyOf F x)).map fdD) [some (.val opd), some (.val (tpF F)), none, none, none, none] →
    Wl [3] (gTN 3) gTrue (xApp mkTup (xCons (xOk (gVar 3)) (xCons (xCall f_type_in (xOk (gCons (gVar 1) (gCons (gVar 3) gNil)))) (xOk gNil)))) (ks.map PyData.str) [some (.val opd), some (.val (tpF F)), none, none, none, none] Q R
  | [], _, q => by
    rw [List.map_nil, wl_nil]
    exact q
  | x :: ks, h, q => by
    rw [List.map_cons, wl_cons]
    obtain ⟨l, m⟩ := h x List.mem_cons_self
    have t1 := sp_type_in (ps := F) l
    rw [tin_ok m] at t1
    simp! [t1]
    exact lc_keys (Q := fun l ρ => Q (fdD (x, tyOf F x) :: l) ρ) ks (fun y hy => h y (List.mem_cons_of_mem _ hy)) q
def anyB (F : Fs) (as : List Ag) : Bool := as.any (agB F)
theorem ag2_loop {F : Fs} {opd : D} {R : Fl → Dn.Env → Prop} {X : Xc → Dn.Env → Prop} : ∀ (as : List Ag) (acc : Fs) (o3 o4 o5 : Option Cell), canSet (some o3) = some () → canSet (some o4) = some () → canSet (some o5) = some () → (∀ a ∈ as, okA F a) → acc.length + as.length ≤ 1000 →
    (if anyB F as = true then ∀ ρ, X ⟨"InvalidOperator", differS⟩ ρ else ∀ o3 o4 o5 : Option Cell, R .nx [some (.val opd), some (.val (tpF F)), some (.own false (.list ((acc ++ as.map fun a => (a.n, agT F a)).map fdD))), o3, o4, o5]) →
    Wx (forX (gTTup 3 (gTCons (gTN 3) (gTCons (gTN 4) (gTCons (gTN 5) gTNil)))) (xApd 2 (xApp mkTup (xCons (xOk (gVar 3)) (xCons (xCall f_aggregate_type (xOk (gCons (gVar 4) (gCons (gVar 5) (gCons (gVar 1) gNil))))) (xOk gNil))))) (as.map agD)) [some (.val opd), some (.val (tpF F)), some (.own false (.list (acc.map fdD))), o3, o4, o5] R X
  | [], acc, o3, o4, o5, h3, h4, h5, _, _, h => by
    rw [List.map_nil, forx_nil]
    have := h o3 o4 o5
    simpa using this
  | a :: as, acc, o3, o4, o5, h3, h4, h5, ho, hl, h => by
    rw [List.map_cons, forx_cons]
    rw [List.length_cons] at hl
    have t1 := sp_agg_type (ho a List.mem_cons_self)
    have eb : agD a = .tuple [.str a.n, .str a.w, cD a.c] := rfl
    cases hb : agB F a with
    | true =>
      have e : anyB F (a :: as) = true := by
        unfold anyB
        rw [List.any_cons, hb]
        rfl
      rw [if_pos e] at h
      rw [hb, if_pos rfl] at t1
      simp! [h3, h4, h5, t1, eb]
      exact h _
    | false =>
      have e : anyB F (a :: as) = anyB F as := by
        unfold anyB
        rw [List.any_cons, hb]
        rfl
      rw [e] at h
      rw [hb, if_neg (by simp)] at t1
      simp! [h3, h4, h5, t1, eb, turnx_nx, List.length_map]
      refine ⟨by omega, ?_⟩
      have ea : acc.map fdD ++ [PyData.tuple [.str a.n, .str (agT F a)]] = (acc ++ [(a.n, agT F a)]).map fdD := by rw [List.map_append]; rfl
      rw [ea]
      refine ag2_loop as (acc ++ [(a.n, agT F a)]) _ _ _ rfl rfl rfl (fun y hy => ho y (List.mem_cons_of_mem _ hy)) (by rw [List.length_append, List.length_singleton]; omega) ?_
      split at h
      · rename_i q
        rw [if_pos q]
        exact h
      · rename_i q
        rw [if_neg q]
        intro o3 o4 o5
        have := h o3 o4 o5
        rw [List.append_assoc]
        exact this
def keyF (F : Fs) (ks : List Str) : Fs := ks.map fun x => (x, tyOf F x)
def agF (F : Fs) (as : List Ag) : Fs := as.map fun a => (a.n, agT F a)
def winF : Fs := [("start", "whole"), ("end", "whole")]
theorem sp_with_group {F : Fs} {ks : List Str} {as : List Ag} (hk : ∀ x ∈ ks, x.length ≤ 1000 ∧ (lookK F x).isNone = false) (ho : ∀ a ∈ as, okA F a) (hz : ks.length + as.length ≤ 900) : f_with_aggregates [opD (.group ks as), tpF F] = some (if anyB F as = true then .inr ⟨"InvalidOperator", differS⟩ else .inl (.list ((keyF F ks ++ agF F as).map fdD))) := by
  rw [← wo_eq]
  unfold f_with_aggregates
  rw [wo_runX]
  show Wx g_with_aggregates [some (.val (opD (.group ks as))), some (.val (tpF F)), none, none, none, none] _ _
  unfold g_with_aggregates
  have e1 : ixD (opD (.group ks as)) (.int 1) = some (.tuple (ks.map PyData.str)) := rfl
  have e0 : ixD (opD (.group ks as)) (.int 0) = some (.str "group") := rfl
  have e2 : ixD (opD (.group ks as)) (.int (-1)) = some (.tuple (as.map agD)) := rfl
  simp! [e1, List.length_map]
  refine ⟨⟨by omega, rfl⟩, ?_⟩
  refine lc_keys ks hk ?_
  simp! [backE, e0, e2, str_iff, String.reduceEq]
  refine ag2_loop as (ks.map fun x => (x, tyOf F x)) none none none rfl rfl rfl ho (by rw [List.length_map]; omega) ?_
  split
  · exact fun ρ => rfl
  · intro o3 o4 o5
    simp! []
    rfl
theorem sp_with_window {F : Fs} {ks : List Str} {as : List Ag} (hk : ∀ x ∈ ks, x.length ≤ 1000 ∧ (lookK F x).isNone = false) (ho : ∀ a ∈ as, okA F a) (hz : ks.length + as.length ≤ 900) : f_with_aggregates [opD (.window ks as xW), tpF F] = some (if anyB F as = true then .inr ⟨"InvalidOperator", differS⟩ else .inl (.list ((keyF F ks ++ winF ++ agF F as).map fdD))) := by
  rw [← wo_eq]
  unfold f_with_aggregates
  rw [wo_runX]
  show Wx g_with_aggregates [some (.val (opD (.window ks as xW))), some (.val (tpF F)), none, none, none, none] _ _
  unfold g_with_aggregates
  have e1 : ixD (opD (.window ks as xW)) (.int 1) = some (.tuple (ks.map PyData.str)) := rfl
  have e0 : ixD (opD (.window ks as xW)) (.int 0) = some (.str "window") := rfl
  have e2 : ixD (opD (.window ks as xW)) (.int (-1)) = some (.tuple (as.map agD)) := rfl
  simp! [e1, List.length_map]
  refine ⟨⟨by omega, rfl⟩, ?_⟩
  refine lc_keys ks hk ?_
  simp! [backE, e0, e2, str_iff, String.reduceEq, List.length_map, List.length_append]
  refine ⟨by omega, by omega, ?_⟩
  have ea : ((ks.map fun x => (x, tyOf F x)).map fdD ++ [PyData.tuple [.str "start", .str "whole"]]) ++ [PyData.tuple [.str "end", .str "whole"]] = (keyF F ks ++ winF).map fdD := by
    rw [List.map_append, List.append_assoc]
    rfl
  rw [ea]
  refine ag2_loop as (keyF F ks ++ winF) none none none rfl rfl rfl ho (by unfold keyF winF; rw [List.length_append, List.length_map]; simp only [List.length_cons, List.length_nil]; omega) ?_
  split
  · exact fun ρ => rfl
  · intro o3 o4 o5
    simp! []
    rfl
end Lw
set_option maxHeartbeats 4000000
namespace Lw
open PySem Dn Dm DnSo
local macro_rules | `(tactic| simp! [$xs,*]) => `(tactic| simp (maxSteps := 4000000) only [backE, wipeE, wo_some, wo_none, wm_c, wm_var, wm_frz, wm_bin, wm_un, wm_tst, wm_tru, wm_truB, wm_chain, wm_and, wm_or, wm_not, wm_andV, wm_orV, wm_notV, wm_ifE, wm_nil, wm_cons, wm_app, wm_noP, wm_part, wm_sl, wm_pk, wm_io, wm_ix, wm_inB, wm_true, wm_seq, wm_rng1, wm_rng2,
    then_nx, then_ret, then_rof, then_brk, then_cnt, ws_next, ws_brk, ws_cnt, ws_seq, ws_if, ws_ret, ws_rof, ws_drop, ws_set, ws_own, ws_asg, wo_TN, wo_TNil, wo_TCons, wo_TTup, ws_ap, ws_setIx, ws_for, for_nil, turn_nx, turn_cnt, turn_brk, turn_ret, turn_rof, wm_lc, end_ret, end_nx, end_rof, end_io, ownOf_own, valOf_val, frz_val, frz_own, frz_ownD, ixO_l, ixO_d, cOwn_own, peek_val, peek_own, peek_ownD, by_val, by_own, canSet_none, canSet_val, canSet_own, lstOf_list,
    List.getElem?_cons_zero, List.getElem?_cons_succ, List.set_cons_zero, List.set_cons_succ, List.length_cons, List.length_nil, wo_ite, wo_bind, ↓reduceIte, and_true, true_and, and_self, Bool.false_eq_true, Bool.not_true, Bool.not_false, decide_eq_true_eq, decide_true, decide_false, oneInt_int, twoInts_int,
    add_ii, add_ll, add_tt, add_ss, sub_ii, mul_ii, mulS_ii, mod_ii, fdiv_ii, neg_i, le_ii, gt_ii, ge_ii, eqT_ii, eqT_ss, eqT_bb, eqT_nn, ltT_ii, ltT_ss, wo_eqD, wo_neD, wo_ltD, wo_inD, wo_ninD, is_n, isnt_n, is_bb, isnt_bb, isN, bOf_b, iOf_i, tru_b, tru_n, tru_i, tru_l, tru_t, seq_l, seq_t, tup_l, tup_t, lst_l, lst_t, len_l, len_t, int_i, int_b, abs_i, max_ii, min_ii, ix_li, ix_ti, cut_l, cut_t, flat_i, flat_b, flat_s, ix0, ix1, ix2, mkTup, mkLst,
    add2_ll, ws_par3, three_c, ws_grp, empty_own, lOwnD_own, wm_lcW, wm_getD, wm_ind, ix3, ix4, ix_m2, ix_m1, ix_p2, ix_p1, wm_newD, ws_setK, wm_get, wm_ixK, wm_sortN, ws_ext, dOwn_own, lOwn_own, lsD_list, step_nx, step_cnt, step_brk, step_ret, step_rof, wm_reve, rev_l, rev_t, wm_opBL, repr_l, sort_l, sum_l, wm_enum, enum_l, enum_t, enumL_nil, wm_dic, wm_kvn, wm_kvc, seq_s, mulT_si, len_s, ord_c, str_i, ty_d, k_lb, k_li, k_ls, k_tb, k_ti, k_ts, k_db, k_di, k_ds, k_lt, k_tl,
    isi_1, tyOk_n, tyOk_b, tyOk_i, tyOk_s, tyOk_l, tyOk_t, ty_n, ty_b, ty_i, ty_s, ty_l, ty_t, k_nb, k_bb, k_ib, k_sb, k_ni, k_bi, k_ii, k_si, k_ns, k_bs, k_is, k_ss, k_ll, k_tt,
    Int.reduceNeg, Int.reducePow, Int.reduceLT, Int.reduceLE, Int.reduceAdd, Int.reduceSub, Int.reduceMul, Int.reduceToNat, Nat.reduceAdd, Nat.reduceLeDiff, Nat.reduceEqDiff, Int.reduceEq, reduceCtorEq, ws_grpL, empty_ownL, wo_TLst, wg_P, wg_end, wg_then, theng_nx, wg_yield, wm_callG, wo_runG, List.nil_append, wx_okD, wx_okL, wx_okB, wx_okS, wx_cons, wx_call, wx_app, wx_bin, wx_tst, wx_not, wx_ite, thenx_nx, thenx_ret, thenx_rof, thenx_brk, thenx_cnt, wx_seq, wx_if, wx_ret, wx_drop, wx_set, wx_apd, ownL_own, wx_raise, strOf_s, wx_for, ws_noX, wx_tryA, wx_try, retq_ret, either_l, either_r, endq_nx, endq_ret, hL_hd, gL_hd, wo_runX, wx_own, wl_nil, wl_cons, wx_lc, wm_keys, wm_callIOF, $xs,*])
def outs : Op → Fs → Fs → Fs
  | .map to, F0, _ => to.map fun p => (p.1, tyK (ty F0 p.2))
  | .near _ _ _ _, F0, F1 => F0 ++ F1
  | .asof _ _, F0, F1 => F0 ++ F1
  | .join _, F0, F1 => F0 ++ F1
  | .group ks as, F0, _ => keyF F0 ks ++ agF F0 as
  | .window ks as xW, F0, _ => keyF F0 ks ++ winF ++ agF F0 as
  | _, F0, _ => F0
/-- the fault in a type, if there is one -/
def flt : Op → Fs → Option Str
  | .filter e, F0 => match ty F0 e with
    | .inr m => some m
    | .inl _ => none
  | .map to, F0 => fltM F0 to
  | _, _ => none
def dif : Op → Fs → Fs → Bool
  | .filter e, F0, _ => match ty F0 e with
    | .inr _ => false
    | .inl t => !(agr t (some "flag"))
  | .union, F0, F1 => decide (F0.map (·.2) ≠ F1.map (·.2))
  | .near ps _ _ _, F0, F1 => difP F0 F1 ps
  | .asof ps _, F0, F1 => difP F0 F1 ps
  | .join ps, F0, F1 => difP F0 F1 ps
  | .group _ as, F0, _ => anyB F0 as
  | .window _ as _, F0, _ => anyB F0 as
  | _, _, _ => false
def dX (b : Bool) (F : Fs) : D ⊕ Xc := if b = true then .inr ⟨"InvalidOperator", differS⟩ else .inl (.list (F.map fdD))
def outX (o : Op) (F0 F1 : Fs) : D ⊕ Xc := match flt o F0 with
  | some x => .inr ⟨"InvalidOperator", x⟩
  | none => dX (dif o F0 F1) (outs o F0 F1)
theorem strs_sh : ∀ {xs : List Str}, (∀ x ∈ xs, PyData.strOk x = true) → PyData.canLayAll0 (xs.map PyData.str) = true ∧ PyData.depthAll (xs.map PyData.str) = 0
  | [], _ => ⟨rfl, rfl⟩
  | x :: xs, h => by
    obtain ⟨i1, i2⟩ := strs_sh (xs := xs) fun y hy => h y (List.mem_cons_of_mem _ hy)
    rw [List.map_cons, PyData.canLayAll0, PyData.depthAll, i1, i2]
    exact ⟨by simp [PyData.canLay0, h x List.mem_cons_self], by simp [PyData.depth]⟩
theorem strs_shaped {xs : List Str} (h : ∀ x ∈ xs, PyData.strOk x = true) : SeqAt.shaped (.list (xs.map PyData.str)) = true := by
  obtain ⟨h1, h2⟩ := strs_sh h
  unfold SeqAt.shaped
  rw [PyData.canLay0, PyData.depth, h1, h2]
  decide
theorem strs_eqv : ∀ (xs ys : List Str), PyData.eqvAll (xs.map PyData.str) (ys.map PyData.str) = decide (xs = ys)
  | [], [] => rfl
  | [], _ :: _ => rfl
  | _ :: _, [] => rfl
  | x :: xs, y :: ys => by
    rw [List.map_cons, List.map_cons, PyData.eqvAll, strs_eqv xs ys, PyData.eqv]
    by_cases h : x = y <;> by_cases h2 : xs = ys <;> simp [h, h2]
theorem eqT_strs {xs ys : List Str} (h1 : ∀ x ∈ xs, PyData.strOk x = true) (h2 : ∀ x ∈ ys, PyData.strOk x = true) : eqT (.list (xs.map PyData.str)) (.list (ys.map PyData.str)) = some (decide (xs = ys)) := by
  show (if _ then _ else _) = _
  rw [if_pos ⟨strs_shaped h1, strs_shaped h2⟩, PyData.eqv, strs_eqv]
theorem kd_ok {k : Str} (h : kd k) : PyData.strOk k = true := by
  rcases h with rfl | rfl | rfl <;> decide +kernel
def wfO : Op → Prop
  | .map to => to.length ≤ 400
  | .group ks as => ks.length ≤ 400 ∧ as.length ≤ 400 ∧ ∀ a ∈ as, a.w ∈ (["count", "sum", "least", "most", "mean", "first", "last"] : List Str) ∧ (a.w ≠ "count" → ∃ x, a.c = some x)
  | .window ks as xW => ks.length ≤ 400 ∧ as.length ≤ 400 ∧ ∀ a ∈ as, a.w ∈ (["count", "sum", "least", "most", "mean", "first", "last"] : List Str) ∧ (a.w ≠ "count" → ∃ x, a.c = some x)
  | .near ps xl xh xk => ps.length ≤ 400
  | .asof ps xk => ps.length ≤ 400
  | .join ps => ps.length ≤ 400
  | .top ks bs xn => ks.length ≤ 400 ∧ bs.length ≤ 400
  | .first ks xt => ks.length ≤ 400
  | _ => True
theorem miss_l {F0 F1 : Fs} {l m : List (Bool × Str)} (h : miss F0 F1 (l ++ m) = none) : miss F0 F1 l = none ∧ miss F0 F1 m = none := by
  rw [miss_app] at h
  cases q : miss F0 F1 l with
  | none => rw [q] at h; exact ⟨rfl, h⟩
  | some x => rw [q] at h; cases h
theorem aggs_ok {F0 F1 : Fs} {as : List Ag} (hs : ∀ a ∈ as, a.n.length ≤ 1000 ∧ ∀ x, a.c = some x → x.length ≤ 1000) (hw : ∀ a ∈ as, a.w ∈ (["count", "sum", "least", "most", "mean", "first", "last"] : List Str) ∧ (a.w ≠ "count" → ∃ x, a.c = some x)) (hm : miss F0 F1 ((aggC as).map fun x => (false, x)) = none) : ∀ a ∈ as, okA F0 a := fun a ha => by
  refine ⟨(hw a ha).1, (hw a ha).2, fun x hx => ⟨(hs a ha).2 x hx, ?_⟩⟩
  have : (false, x) ∈ (aggC as).map fun x => (false, x) := List.mem_map.mpr ⟨x, List.mem_filterMap.mpr ⟨a, ha, hx⟩, rfl⟩
  exact miss_none hm _ this
theorem keys_ok {F0 F1 : Fs} {ks : List Str} (hs : ∀ x ∈ ks, x.length ≤ 1000) (hm : miss F0 F1 (ks.map fun x => (false, x)) = none) : ∀ x ∈ ks, x.length ≤ 1000 ∧ (lookK F0 x).isNone = false := fun x hx =>
  ⟨hs x hx, miss_none hm (false, x) (List.mem_map.mpr ⟨x, hx, rfl⟩)⟩
theorem prs_ok {F0 F1 : Fs} {ps : List (Str × Str)} (hm : miss F0 F1 (ps.flatMap fun p => [(false, p.1), (true, p.2)]) = none) : ∀ p ∈ ps, (lookK F0 p.1).isNone = false ∧ (lookK F1 p.2).isNone = false := fun p hp =>
  ⟨miss_none hm (false, p.1) (List.mem_flatMap.mpr ⟨p, hp, by simp⟩), miss_none hm (true, p.2) (List.mem_flatMap.mpr ⟨p, hp, by simp⟩)⟩
theorem sp_output_fields {o : Op} {F0 F1 : Fs} (hs : short o) (hw : wfO o) (hm : miss F0 F1 (nmd o) = none) (hk0 : ∀ p ∈ F0, kd p.2) (hk1 : ∀ p ∈ F1, kd p.2) (l0 : F0.length ≤ 400) (l1 : F1.length ≤ 400) : f_output_fields [opD o, flD o F0 F1] = some (outX o F0 F1) := by
  rw [← wo_eq]
  unfold f_output_fields
  rw [wo_runX]
  show Wx g_output_fields [some (.val (opD o)), some (.val (flD o F0 F1)), none, none, none] _ _
  unfold g_output_fields
  have two1 : (F0.map fdD).length + (F1.map fdD).length ≤ 16777216 := by rw [List.length_map, List.length_map]; omega
  have x1 : okD true = .inr ⟨"InvalidOperator", differS⟩ := rfl
  have x2 : okD false = .inl .none := rfl
  have et : tpF F0 = .tuple (F0.map fdD) := rfl
  have et1 : tpF F1 = .tuple (F1.map fdD) := rfl
  cases o with
  | filter c =>
    have t1 : f_type_of [exD c, tpF F0] = some (tyX (ty F0 c)) := sp_type_of (ps := F0) c 6 hs.1 hs.2
    unfold outX
    cases m : ty F0 c with
    | inr y =>
      have em : flt (.filter c) F0 = some y := by
        show (match ty F0 c with | .inr m => some m | .inl _ => none) = _
        rw [m]
      rw [m, tyX_r] at t1
      rw [em]
      simp! [opD, flD, two, str_iff, String.reduceEq, t1]
    | inl y =>
      have em : flt (.filter c) F0 = none := by
        show (match ty F0 c with | .inr m => some m | .inl _ => none) = _
        rw [m]
      have ed : dif (.filter c) F0 F1 = !(agr y (some "flag")) := by
        show (match ty F0 c with | .inr _ => false | .inl t => !(agr t (some "flag"))) = _
        rw [m]
      have ag : f_agree [tD y, .str "flag"] = some (.bool (agr y (some "flag"))) := sp_ag (a := y) (b := some "flag")
      rw [m, tyX_l] at t1
      rw [em, ed]
      rw [et] at t1
      cases ha : agr y (some "flag") <;> rw [ha] at ag <;> simp! [opD, flD, two, str_iff, String.reduceEq, t1, ag, sp_differ, dX, outs, et]
      all_goals first | rfl | trivial
  | map to =>
    have t1 := sp_mapped (F0 := F0) hs (by have hw : to.length ≤ 400 := hw; omega)
    unfold outX
    have es : flt (.map to) F0 = fltM F0 to := rfl
    rw [es]
    have ed : dif (.map to) F0 F1 = false := rfl
    cases m : fltM F0 to with
    | none =>
      rw [m] at t1
      simp! [opD, flD, two, str_iff, String.reduceEq, t1, ed, dX, outs]
    | some x =>
      rw [m] at t1
      simp! [opD, flD, two, str_iff, String.reduceEq, t1]
  | union =>
    have ek : ∀ {F : Fs}, (∀ p ∈ F, kd p.2) → ∀ x ∈ F.map (·.2), PyData.strOk x = true := fun h x hx => by
      obtain ⟨p, hp, rfl⟩ := List.mem_map.mp hx
      exact kd_ok (h p hp)
    have eq := eqT_strs (ek hk0) (ek hk1)
    have em0 : F0.map (fun p => PyData.str p.2) = (F0.map (·.2)).map PyData.str := by rw [List.map_map]; rfl
    have em1 : F1.map (fun p => PyData.str p.2) = (F1.map (·.2)).map PyData.str := by rw [List.map_map]; rfl
    have em : flt .union F0 = none := rfl
    unfold outX
    rw [em]
    simp! [opD, flD, two, str_iff, String.reduceEq, et, et1, List.length_map]
    refine ⟨⟨by omega, rfl⟩, ?_⟩
    refine lc_mapA fdD (fun p => .str p.2) _ (fun p _ => ?_) ?_
    · unfold fdD
      simp! []
      all_goals rfl
    · simp! [backE, List.length_map]
      refine ⟨⟨by omega, rfl⟩, ?_⟩
      refine lc_mapA fdD (fun p => .str p.2) _ (fun p _ => ?_) ?_
      · unfold fdD
        simp! []
        all_goals rfl
      · rw [em0, em1]
        by_cases q : F0.map (·.2) = F1.map (·.2)
        · have ed : dif .union F0 F1 = false := by simp [dif, q]
          rw [q] at eq
          simp! [backE, eq, q, sp_differ, ed, dX, outs]
        · have ed : dif .union F0 F1 = true := by simp [dif, q]
          simp! [backE, eq, q, sp_differ, ed, dX]
  | distinct =>
    have em : flt .distinct F0 = none := rfl
    have ed : dif .distinct F0 F1 = false := rfl
    unfold outX
    rw [em]
    simp! [opD, flD, two, str_iff, String.reduceEq, iw_c_distinct, iw_b_distinct, ed, dX, outs, et]
  | top ks bs xn =>
    have em : flt (.top ks bs xn) F0 = none := rfl
    have ed : dif (.top ks bs xn) F0 F1 = false := rfl
    unfold outX
    rw [em]
    simp! [opD, flD, two, str_iff, String.reduceEq, iw_c_top, iw_b_top, ed, dX, outs, et]
  | first ks xt =>
    have em : flt (.first ks xt) F0 = none := rfl
    have ed : dif (.first ks xt) F0 F1 = false := rfl
    unfold outX
    rw [em]
    simp! [opD, flD, two, str_iff, String.reduceEq, iw_c_first, iw_b_first, ed, dX, outs, et]
  | group ks as =>
    obtain ⟨m1, m2⟩ := miss_l hm
    have t1 := sp_with_group (keys_ok hs.1 m1) (aggs_ok hs.2 hw.2.2 m2) (by have := hw.1; have := hw.2.1; omega)
    have em : flt (.group ks as) F0 = none := rfl
    have ed : dif (.group ks as) F0 F1 = anyB F0 as := rfl
    unfold outX
    rw [em]
    have eo : opD (.group ks as) = .tuple [.str "group", .tuple (ks.map PyData.str), .tuple (as.map agD)] := rfl
    rw [eo] at t1 ⊢
    cases q : anyB F0 as with
    | true =>
      rw [q, if_pos rfl] at t1
      simp! [flD, two, str_iff, String.reduceEq, iw_c_group, t1, ed, q, dX]
    | false =>
      rw [q, if_neg (by simp)] at t1
      simp! [flD, two, str_iff, String.reduceEq, iw_c_group, t1, ed, q, dX, outs]
  | window ks as xW =>
    obtain ⟨m1, m2⟩ := miss_l hm
    have t1 := sp_with_window (xW := xW) (keys_ok hs.1 m1) (aggs_ok hs.2 hw.2.2 m2) (by have := hw.1; have := hw.2.1; omega)
    have em : flt (.window ks as xW) F0 = none := rfl
    have ed : dif (.window ks as xW) F0 F1 = anyB F0 as := rfl
    unfold outX
    rw [em]
    have eo : opD (.window ks as xW) = .tuple [.str "window", .tuple (ks.map PyData.str), xW, .tuple (as.map agD)] := rfl
    rw [eo] at t1 ⊢
    cases q : anyB F0 as with
    | true =>
      rw [q, if_pos rfl] at t1
      simp! [flD, two, str_iff, String.reduceEq, iw_c_window, t1, ed, q, dX]
    | false =>
      rw [q, if_neg (by simp)] at t1
      simp! [flD, two, str_iff, String.reduceEq, iw_c_window, t1, ed, q, dX, outs]
  | near ps xl xh xk =>
    have t1 := sp_check_pairs (F0 := F0) (F1 := F1) hs (prs_ok hm)
    have em : flt (.near ps xl xh xk) F0 = none := rfl
    have ed : dif (.near ps xl xh xk) F0 F1 = difP F0 F1 ps := rfl
    unfold outX
    rw [em]
    cases q : difP F0 F1 ps with
    | true =>
      rw [q, x1] at t1
      simp! [opD, flD, two, str_iff, String.reduceEq, iw_c_near, iw_b_near, t1, ed, q, dX]
    | false =>
      rw [q, x2, et, et1] at t1
      simp! [opD, flD, two, str_iff, String.reduceEq, iw_c_near, iw_b_near, t1, ed, q, dX, outs, et, et1, two1, List.map_append]
  | asof ps xk =>
    have t1 := sp_check_pairs (F0 := F0) (F1 := F1) hs (prs_ok hm)
    have em : flt (.asof ps xk) F0 = none := rfl
    have ed : dif (.asof ps xk) F0 F1 = difP F0 F1 ps := rfl
    unfold outX
    rw [em]
    cases q : difP F0 F1 ps with
    | true =>
      rw [q, x1] at t1
      simp! [opD, flD, two, str_iff, String.reduceEq, iw_c_asof, iw_b_asof, t1, ed, q, dX]
    | false =>
      rw [q, x2, et, et1] at t1
      simp! [opD, flD, two, str_iff, String.reduceEq, iw_c_asof, iw_b_asof, t1, ed, q, dX, outs, et, et1, two1, List.map_append]
  | join ps =>
    have t1 := sp_check_pairs (F0 := F0) (F1 := F1) hs (prs_ok hm)
    have em : flt (.join ps) F0 = none := rfl
    have ed : dif (.join ps) F0 F1 = difP F0 F1 ps := rfl
    unfold outX
    rw [em]
    cases q : difP F0 F1 ps with
    | true =>
      rw [q, x1] at t1
      simp! [opD, flD, two, str_iff, String.reduceEq, iw_c_join, iw_b_join, t1, ed, q, dX]
    | false =>
      rw [q, x2, et, et1] at t1
      simp! [opD, flD, two, str_iff, String.reduceEq, iw_c_join, iw_b_join, t1, ed, q, dX, outs, et, et1, two1, List.map_append]
def kD : Bool → D
  | true => .str "table"
  | false => .str "events"
def sds (o : Op) (F0 F1 : Fs) (b0 b1 : Bool) : List (Fs × Bool) := if two o = true then [(F0, b0), (F1, b1)] else [(F0, b0)]
def sdD (p : Fs × Bool) : D := .tuple [tpF p.1, kD p.2]
def kdD (o : Op) (b0 b1 : Bool) : D := .list (if two o = true then [kD b0, kD b1] else [kD b0])
def evS : Str := "events are wanted"
def manyS : Str := "too many columns"
def twiceS : Str := " is there twice"
def evw : Op → Bool → Bool → Bool
  | .window _ _ _, b0, _ => b0
  | .first _ _, b0, _ => b0
  | .asof _ _, b0, _ => b0
  | .near _ _ _ _, b0, b1 => b0 || b1
  | _, _, _ => false
def evX (b : Bool) : D ⊕ Xc := if b = true then .inr ⟨"InvalidOperator", evS⟩ else .inl .none
theorem ct1 {x : D} : cutA [x] none (some 1) = [x] := rfl
theorem ct12 {x y : D} : cutA [x, y] none (some 1) = [x] := rfl
theorem sp_check_kinds {o : Op} {b0 b1 : Bool} : f_check_kinds [opD o, kdD o b0 b1] = some (evX (evw o b0 b1)) := by
  rw [← wo_eq]
  unfold f_check_kinds
  rw [wo_runX]
  show Wx g_check_kinds [some (.val (opD o)), some (.val (kdD o b0 b1)), none, none, none] _ _
  unfold g_check_kinds
  cases o with
  | filter c => simp! [opD, kdD, two, str_iff, String.reduceEq, iw_d_filter, evw, evX, forx_nil]
  | map to => simp! [opD, kdD, two, str_iff, String.reduceEq, iw_d_map, evw, evX, forx_nil]
  | union => simp! [opD, kdD, two, str_iff, String.reduceEq, iw_d_union, evw, evX, forx_nil]
  | distinct => simp! [opD, kdD, two, str_iff, String.reduceEq, iw_d_distinct, evw, evX, forx_nil]
  | top ks bs xn => simp! [opD, kdD, two, str_iff, String.reduceEq, iw_d_top, evw, evX, forx_nil]
  | group ks as => simp! [opD, kdD, two, str_iff, String.reduceEq, iw_d_group, evw, evX, forx_nil]
  | join ps => simp! [opD, kdD, two, str_iff, String.reduceEq, iw_d_join, evw, evX, forx_nil]
  | first ks xt => cases b0 <;> simp! [opD, kdD, two, str_iff, String.reduceEq, iw_d_first, evw, evX, forx_nil, forx_cons, kD, ct1, ct12, turnx_nx, Bool.or_false, Bool.or_true, Bool.false_or] <;> rfl
  | window ks as xW => cases b0 <;> simp! [opD, kdD, two, str_iff, String.reduceEq, iw_d_window, evw, evX, forx_nil, forx_cons, kD, ct1, ct12, turnx_nx, Bool.or_false, Bool.or_true, Bool.false_or] <;> rfl
  | asof ps xk => cases b0 <;> simp! [opD, kdD, two, str_iff, String.reduceEq, iw_d_asof, evw, evX, forx_nil, forx_cons, kD, ct1, ct12, turnx_nx, Bool.or_false, Bool.or_true, Bool.false_or] <;> rfl
  | near ps xl xh xk => cases b0 <;> cases b1 <;> simp! [opD, kdD, two, str_iff, String.reduceEq, iw_d_near, evw, evX, forx_nil, forx_cons, kD, ct1, ct12, turnx_nx, Bool.or_false, Bool.or_true, Bool.false_or] <;> rfl
def kindO : Op → Bool → Bool → Bool
  | .filter _, b0, _ => b0
  | .map _, b0, _ => b0
  | .union, b0, b1 => b0 || b1
  | .window _ _ _, _, _ => false
  | .near _ _ _ _, _, _ => false
  | .asof _ _, _, _ => false
  | .first _ _, _, _ => false
  | _, _, _ => true
theorem ee0 : eqT (.list [.str "events", .str "events"]) (.list [.str "events", .str "events"]) = some true := by decide +kernel
theorem ee1 : eqT (.list [.str "events", .str "table"]) (.list [.str "events", .str "events"]) = some false := by decide +kernel
theorem ee2 : eqT (.list [.str "table", .str "events"]) (.list [.str "events", .str "events"]) = some false := by decide +kernel
theorem ee3 : eqT (.list [.str "table", .str "table"]) (.list [.str "events", .str "events"]) = some false := by decide +kernel
theorem sp_output_kind {o : Op} {b0 b1 : Bool} : f_output_kind [opD o, kdD o b0 b1] = some (kD (kindO o b0 b1)) := by
  rw [← wo_eq]
  unfold f_output_kind
  rw [wo_runV]
  show Ws g_output_kind [some (.val (opD o)), some (.val (kdD o b0 b1)), none] _
  unfold g_output_kind
  cases o with
  | filter c => simp! [opD, kdD, two, str_iff, String.reduceEq, iw_e_filter, kindO]
  | map to => simp! [opD, kdD, two, str_iff, String.reduceEq, iw_e_map, kindO]
  | union => cases b0 <;> cases b1 <;> simp! [opD, kdD, two, str_iff, String.reduceEq, iw_e_union, kindO, ee0, ee1, ee2, ee3, kD] <;> rfl
  | distinct => simp! [opD, kdD, two, str_iff, String.reduceEq, iw_e_distinct, iw_f_distinct, kindO, kD]
  | top ks bs xn => simp! [opD, kdD, two, str_iff, String.reduceEq, iw_e_top, iw_f_top, kindO, kD]
  | group ks as => simp! [opD, kdD, two, str_iff, String.reduceEq, iw_e_group, iw_f_group, kindO, kD]
  | join ps => simp! [opD, kdD, two, str_iff, String.reduceEq, iw_e_join, iw_f_join, kindO, kD]
  | first ks xt => simp! [opD, kdD, two, str_iff, String.reduceEq, iw_e_first, iw_f_first, kindO, kD]
  | window ks as xW => simp! [opD, kdD, two, str_iff, String.reduceEq, iw_e_window, iw_f_window, kindO, kD]
  | asof ps xk => simp! [opD, kdD, two, str_iff, String.reduceEq, iw_e_asof, iw_f_asof, kindO, kD]
  | near ps xl xh xk => simp! [opD, kdD, two, str_iff, String.reduceEq, iw_e_near, iw_f_near, kindO, kD]
theorem any_strs (x : Str) : ∀ xs : List Str, ((xs.map PyData.str).any fun z => PyData.eqv z (.str x)) = decide (x ∈ xs)
  | [] => rfl
  | y :: ys => by
    rw [List.map_cons, List.any_cons, any_strs x ys, PyData.eqv]
    by_cases h : y = x
    · simp [h]
    · have h' : ¬ x = y := fun e => h e.symm
      simp [h, h']
theorem in_strs {x : Str} {xs : List Str} (hx : PyData.strOk x = true) (h : ∀ y ∈ xs, PyData.strOk y = true) : inT (.str x) (.list (xs.map PyData.str)) = some (decide (x ∈ xs)) := by
  show (if _ then _ else _) = _
  rw [if_pos ⟨by simp [SeqAt.shaped, PyData.canLay0, PyData.depth, hx], strs_shaped h⟩, any_strs]
def dup (seen : List Str) : List Str → Option Str
  | [] => none
  | x :: xs => if x ∈ seen then some x else dup (seen ++ [x]) xs
theorem add_twice {x : Str} (h : x.length ≤ 1000) : addD (.str x) (.str " is there twice") = some (.str (x ++ twiceS)) := by
  have e : (" is there twice" : Str).length = 15 := by decide +kernel
  rw [add_ss, e, if_pos (by omega)]
  rfl
theorem dup_loop {w : Bool} {c0 c1 c2 c3 c4 : Option Cell} {S : Fl → Dn.Env → Prop} {X : Xc → Dn.Env → Prop} : ∀ (fs : Fs) (seen : List Str) (o6 o7 : Option Cell), canSet (some o6) = some () → canSet (some o7) = some () → (∀ p ∈ fs, PyData.strOk p.1 = true ∧ p.1.length ≤ 1000) → (∀ x ∈ seen, PyData.strOk x = true) → seen.length + fs.length ≤ 1000 →
    (match dup seen (fs.map (·.1)) with | some x => ∀ ρ, X ⟨"InvalidOperator", x ++ twiceS⟩ ρ | none => ∀ (o5 o6 o7 : Option Cell), S .nx [c0, c1, c2, c3, c4, o5, o6, o7, none]) →
    Wx (forX (gTTup 2 (gTCons (gTN 6) (gTCons (gTN 7) gTNil)))
  (xSeq (xIf (xOk (gTst (gInB false 5 (gVar 6)))) (xRaise "InvalidOperator" (gBin addD (gVar 6) (gC (.str " is there twice")))) (xOk sNext))
  (xOk (sApp 5 (gVar 6)))) (fs.map fdD)) [c0, c1, c2, c3, c4, some (.own w (.list (seen.map PyData.str))), o6, o7, none] S X
  | [], seen, o6, o7, h6, h7, _, _, _, h => by
    rw [List.map_nil, forx_nil]
    exact h _ _ _
  | p :: fs, seen, o6, o7, h6, h7, hp, hs, hz, h => by
    rw [List.map_cons, forx_cons]
    rw [List.map_cons, dup] at h
    have ef : fdD p = .tuple [.str p.1, .str p.2] := rfl
    obtain ⟨hx, hl⟩ := hp p List.mem_cons_self
    have hi := in_strs hx hs
    rw [List.length_cons] at hz
    by_cases q : p.1 ∈ seen
    · rw [if_pos q] at h
      have hi : inT (.str p.1) (.list (seen.map PyData.str)) = some true := by rw [hi]; simp [q]
      simp! [h6, h7, ef, hi, add_twice hl]
      exact h _
    · rw [if_neg q] at h
      have hi : inT (.str p.1) (.list (seen.map PyData.str)) = some false := by rw [hi]; simp [q]
      simp! [h6, h7, ef, hi, List.length_map]
      refine ⟨by omega, ?_⟩
      have es : seen.map PyData.str ++ [.str p.1] = (seen ++ [p.1]).map PyData.str := by simp
      rw [es]
      refine dup_loop fs (seen ++ [p.1]) _ _ rfl rfl (fun r hr => hp r (List.mem_cons_of_mem _ hr)) (fun x hx' => ?_) (by rw [List.length_append]; simp only [List.length_cons, List.length_nil]; omega) h
      rcases List.mem_append.mp hx' with hx' | hx'
      · exact hs x hx'
      · rw [List.mem_singleton.mp hx']
        exact hx
abbrev Res := (Fs × Bool) ⊕ Str
def resX (o : Op) (F0 F1 : Fs) (b0 b1 : Bool) : Res := match miss F0 F1 (nmd o) with
  | some x => .inr (noC x)
  | none => match flt o F0 with
    | some x => .inr x
    | none => if dif o F0 F1 = true then .inr differS else if evw o b0 b1 = true then .inr evS else match dup [] ((outs o F0 F1).map (·.1)) with
      | some x => .inr (x ++ twiceS)
      | none => if 8 < (outs o F0 F1).length then .inr manyS else .inl (outs o F0 F1, kindO o b0 b1)
def rsD : Res → D ⊕ Xc
  | .inl r => .inl (.tuple [tpF r.1, kD r.2])
  | .inr m => .inr ⟨"InvalidOperator", m⟩
theorem sds_fl {o : Op} {F0 F1 : Fs} {b0 b1 : Bool} : PyData.list ((sds o F0 F1 b0 b1).map fun p => tpF p.1) = flD o F0 F1 := by
  unfold sds flD
  cases two o <;> rfl
theorem sds_kd {o : Op} {F0 F1 : Fs} {b0 b1 : Bool} : PyData.list ((sds o F0 F1 b0 b1).map fun p => kD p.2) = kdD o b0 b1 := by
  unfold sds kdD
  cases two o <;> rfl
theorem sds_len {o : Op} {F0 F1 : Fs} {b0 b1 : Bool} : (sds o F0 F1 b0 b1).length ≤ 2 := by
  unfold sds
  cases two o <;> simp
theorem sp_check_operator {o : Op} {F0 F1 : Fs} {b0 b1 : Bool} (hs : short o) (hw : wfO o) (hk0 : ∀ p ∈ F0, kd p.2) (hk1 : ∀ p ∈ F1, kd p.2) (l0 : F0.length ≤ 400) (l1 : F1.length ≤ 400) (hN : ∀ p ∈ outs o F0 F1, PyData.strOk p.1 = true ∧ p.1.length ≤ 1000) (hL : (outs o F0 F1).length ≤ 1000) : f_check_operator [opD o, .list ((sds o F0 F1 b0 b1).map sdD)] = some (rsD (resX o F0 F1 b0 b1)) := by
  rw [← wo_eq]
  unfold f_check_operator
  rw [wo_runX]
  show Wx g_check_operator [some (.val (opD o)), some (.val (.list ((sds o F0 F1 b0 b1).map sdD))), none, none, none, none, none, none, none] _ _
  unfold g_check_operator
  have t1 := sp_check_columns (o := o) (F0 := F0) (F1 := F1) hs
  have t2 := sp_check_kinds (o := o) (b0 := b0) (b1 := b1)
  have t4 := sp_output_kind (o := o) (b0 := b0) (b1 := b1)
  have hz := sds_len (o := o) (F0 := F0) (F1 := F1) (b0 := b0) (b1 := b1)
  simp! [List.length_map]
  refine ⟨⟨by omega, rfl⟩, ?_⟩
  refine lc_mapA sdD (fun p => tpF p.1) _ (fun p _ => ?_) ?_
  · unfold sdD
    simp! []
    all_goals rfl
  simp! [backE, List.length_map]
  refine ⟨⟨by omega, rfl⟩, ?_⟩
  refine lc_mapA sdD (fun p => kD p.2) _ (fun p _ => ?_) ?_
  · unfold sdD
    simp! []
    all_goals rfl
  rw [← sds_fl (b0 := b0) (b1 := b1)] at t1
  rw [← sds_kd (F0 := F0) (F1 := F1)] at t2 t4
  unfold resX
  cases m : miss F0 F1 (nmd o) with
  | some x =>
    rw [m] at t1
    simp! [backE, t1, okX, rsD]
  | none =>
    rw [m] at t1
    have t3 := sp_output_fields hs hw m hk0 hk1 l0 l1
    rw [← sds_fl (b0 := b0) (b1 := b1)] at t3
    unfold outX at t3
    cases n : flt o F0 with
    | some x =>
      rw [n] at t3
      simp! [backE, t1, t3, okX, rsD]
    | none =>
      rw [n] at t3
      cases d : dif o F0 F1 with
      | true =>
        rw [d] at t3
        simp! [backE, t1, t3, okX, dX, rsD]
      | false =>
        rw [d] at t3
        cases e : evw o b0 b1 with
        | true =>
          rw [e] at t2
          simp! [backE, t1, t2, t3, okX, dX, evX, rsD]
        | false =>
          rw [e] at t2
          simp! [backE, t1, t2, t3, okX, dX, evX, rsD]
          refine dup_loop (outs o F0 F1) [] none none rfl rfl hN (fun x hx => by cases hx) (by simpa using hL) ?_
          cases u : dup [] ((outs o F0 F1).map (·.1)) with
          | some x => exact fun ρ => rfl
          | none =>
            intro o5 o6 o7
            by_cases q : 8 < (outs o F0 F1).length
            · have q' : ((8 : Int) < ((outs o F0 F1).length : Nat)) := by omega
              simp! [t4, q, q', List.length_map, rsD]
              rfl
            · have q' : ¬ ((8 : Int) < ((outs o F0 F1).length : Nat)) := by omega
              simp! [t4, q, q', List.length_map, rsD]
              rfl
end Lw
set_option maxHeartbeats 4000000
namespace Lw
open PySem Dn Dm DnSo
local macro_rules | `(tactic| simp! [$xs,*]) => `(tactic| simp (maxSteps := 4000000) only [backE, wipeE, wo_some, wo_none, wm_c, wm_var, wm_frz, wm_bin, wm_un, wm_tst, wm_tru, wm_truB, wm_chain, wm_and, wm_or, wm_not, wm_andV, wm_orV, wm_notV, wm_ifE, wm_nil, wm_cons, wm_app, wm_noP, wm_part, wm_sl, wm_pk, wm_io, wm_ix, wm_inB, wm_true, wm_seq, wm_rng1, wm_rng2,
    then_nx, then_ret, then_rof, then_brk, then_cnt, ws_next, ws_brk, ws_cnt, ws_seq, ws_if, ws_ret, ws_rof, ws_drop, ws_set, ws_own, ws_asg, wo_TN, wo_TNil, wo_TCons, wo_TTup, ws_ap, ws_setIx, ws_for, for_nil, turn_nx, turn_cnt, turn_brk, turn_ret, turn_rof, wm_lc, end_ret, end_nx, end_rof, end_io, ownOf_own, valOf_val, frz_val, frz_own, frz_ownD, ixO_l, ixO_d, cOwn_own, peek_val, peek_own, peek_ownD, by_val, by_own, canSet_none, canSet_val, canSet_own, lstOf_list,
    List.getElem?_cons_zero, List.getElem?_cons_succ, List.set_cons_zero, List.set_cons_succ, List.length_cons, List.length_nil, wo_ite, wo_bind, ↓reduceIte, and_true, true_and, and_self, Bool.false_eq_true, Bool.not_true, Bool.not_false, decide_eq_true_eq, decide_true, decide_false, oneInt_int, twoInts_int,
    add_ii, add_ll, add_tt, add_ss, sub_ii, mul_ii, mulS_ii, mod_ii, fdiv_ii, neg_i, le_ii, gt_ii, ge_ii, eqT_ii, eqT_ss, eqT_bb, eqT_nn, ltT_ii, ltT_ss, wo_eqD, wo_neD, wo_ltD, wo_inD, wo_ninD, is_n, isnt_n, is_bb, isnt_bb, isN, bOf_b, iOf_i, tru_b, tru_n, tru_i, tru_l, tru_t, seq_l, seq_t, tup_l, tup_t, lst_l, lst_t, len_l, len_t, int_i, int_b, abs_i, max_ii, min_ii, ix_li, ix_ti, cut_l, cut_t, flat_i, flat_b, flat_s, ix0, ix1, ix2, mkTup, mkLst,
    add2_ll, ws_par3, three_c, ws_grp, empty_own, lOwnD_own, wm_lcW, wm_getD, wm_ind, ix3, ix4, ix_m2, ix_m1, ix_p2, ix_p1, wm_newD, ws_setK, wm_get, wm_ixK, wm_sortN, ws_ext, dOwn_own, lOwn_own, lsD_list, step_nx, step_cnt, step_brk, step_ret, step_rof, wm_reve, rev_l, rev_t, wm_opBL, repr_l, sort_l, sum_l, wm_enum, enum_l, enum_t, enumL_nil, wm_dic, wm_kvn, wm_kvc, seq_s, mulT_si, len_s, ord_c, str_i, ty_d, k_lb, k_li, k_ls, k_tb, k_ti, k_ts, k_db, k_di, k_ds, k_lt, k_tl,
    isi_1, tyOk_n, tyOk_b, tyOk_i, tyOk_s, tyOk_l, tyOk_t, ty_n, ty_b, ty_i, ty_s, ty_l, ty_t, k_nb, k_bb, k_ib, k_sb, k_ni, k_bi, k_ii, k_si, k_ns, k_bs, k_is, k_ss, k_ll, k_tt,
    Int.reduceNeg, Int.reducePow, Int.reduceLT, Int.reduceLE, Int.reduceAdd, Int.reduceSub, Int.reduceMul, Int.reduceToNat, Nat.reduceAdd, Nat.reduceLeDiff, Nat.reduceEqDiff, Int.reduceEq, reduceCtorEq, ws_grpL, empty_ownL, wo_TLst, wg_P, wg_end, wg_then, theng_nx, wg_yield, wm_callG, wo_runG, List.nil_append, wx_okD, wx_okL, wx_okB, wx_okS, wx_cons, wx_call, wx_app, wx_bin, wx_tst, wx_not, wx_ite, thenx_nx, thenx_ret, thenx_rof, thenx_brk, thenx_cnt, wx_seq, wx_if, wx_ret, wx_drop, wx_set, wx_apd, ownL_own, wx_raise, strOf_s, wx_for, ws_noX, wx_tryA, wx_try, retq_ret, either_l, either_r, endq_nx, endq_ret, hL_hd, gL_hd, wo_runX, wx_own, wl_nil, wl_cons, wx_lc, wm_keys, wm_callIOF, wm_fmt, fmt_s, fmt_i, js_s, wm_js0, wm_js, wm_sortU, wm_fT, fT_val, fT_own, ws_newT, txtC_own, ws_newTD, ws_fill, fill_nil, retn_ret, retn_nx, wx_tryN, wx_tryR, rzq_str, h1_hd, mulL_ii, mulR_ti, $xs,*])
/-- a name -/
def nm (x : Str) : Prop := smD (.str x) = true
theorem nm_ok {x : Str} (h : nm x) : PyData.strOk x = true ∧ x.length ≤ 100 := by
  have h : smD (.str x) = true := h
  simp only [smD, Bool.and_eq_true, decide_eq_true_eq] at h
  exact h.1
def FsOk (F : Fs) : Prop := F.length ≤ 8 ∧ ∀ p ∈ F, nm p.1 ∧ kd p.2
def ckind (k : D) : Prop := k = .none ∨ ∃ s, k = .str s
theorem wo_columns {F : Fs} {k : D} {Q : D → Prop} (hF : FsOk F) (hk : ckind k) (q : ∀ ns : List Str, (∀ x ∈ ns, nm x) → ns.length ≤ 8 → Q (.list (ns.map PyData.str))) : Wo (f__law_columns [tpF F, k]) Q := by
  have key : ∀ p : Str × Str → Bool, (∀ x ∈ (F.filter p).map (·.1), nm x) ∧ ((F.filter p).map (·.1)).length ≤ 8 := fun p => ⟨fun x hx => by
    obtain ⟨y, hy, rfl⟩ := List.mem_map.mp hx
    exact (hF.2 y (List.mem_filter.mp hy).1).1, by
    rw [List.length_map]
    exact Nat.le_trans (List.length_filter_le _ _) hF.1⟩
  have em : ∀ p : Str × Str → Bool, (F.filter p).map (fun p => PyData.str p.1) = ((F.filter p).map (·.1)).map PyData.str := fun p => by
    rw [List.map_map]
    rfl
  unfold f__law_columns
  rw [wo_runV]
  show Ws g__law_columns [some (.val (.tuple (F.map fdD))), some (.val k), none] _
  unfold g__law_columns
  have h8 := hF.1
  rcases hk with rfl | ⟨s, rfl⟩
  · simp! [List.length_map]
    refine ⟨⟨by omega, rfl⟩, ?_⟩
    refine lc_filterA fdD (fun p => .str p.1) (fun _ => true) _ (fun p hp => ?_) ?_
    · unfold fdD
      simp! []
      all_goals first | rfl | trivial
    · rw [em]
      simp! []
      exact q _ (key _).1 (key _).2
  · simp! [List.length_map]
    refine ⟨⟨by omega, rfl⟩, ?_⟩
    refine lc_filterA fdD (fun p => .str p.1) (fun p => decide (p.2 = s)) _ (fun p hp => ?_) ?_
    · unfold fdD
      by_cases h2 : p.2 = s
      · simp! [h2]
        all_goals first | rfl | trivial
      · simp! [h2]
        all_goals first | rfl | trivial
    · rw [em]
      simp! []
      exact q _ (key _).1 (key _).2
theorem nm_none : nm "none" := by unfold nm; decide +kernel
theorem wo_ixS {ns : List Str} {i : Int} {Q : D → Prop} (h0 : 0 ≤ i) (h1 : i < ns.length) (hn : ∀ x ∈ ns, nm x) (q : ∀ x, nm x → Q (.str x)) : Wo (ixA (ns.map PyData.str) i) Q := by
  refine wo_ix h0 (by simpa using h1) fun d hd => ?_
  obtain ⟨x, hx, rfl⟩ := List.mem_map.mp hd
  exact q x (hn x hx)
theorem wo_pick {ns : List Str} {row : Int} {Q : D → Prop} (hn : ∀ x ∈ ns, nm x) (q : ∀ x, nm x → Q (.str x)) : Wo (f__law_pick [.list (ns.map PyData.str), .int row]) Q := by
  unfold f__law_pick
  rw [wo_runV]
  show Ws g__law_pick [some (.val (.list (ns.map PyData.str))), some (.val (.int row))] _
  unfold g__law_pick
  by_cases h : ns.length = 0
  · simp! [List.length_map, h]
    exact q _ nm_none
  · have h1 : ¬ ((ns.length : Nat) : Int) = 0 := by omega
    have h2 : (0 : Int) < ((ns.length : Nat) : Int) := by omega
    simp! [List.length_map, h1, h2]
    exact wo_ixS (Int.emod_nonneg _ h1) (Int.emod_lt_of_pos _ h2) hn q
/-- data that is small -/
def sml (n k : Nat) (d : D) : Prop := smD d = true ∧ d.depth ≤ n ∧ nodes d ≤ k
theorem sml_mono {n k m l : Nat} {d : D} (h : sml n k d) (h1 : n ≤ m) (h2 : k ≤ l) : sml m l d := ⟨h.1, Nat.le_trans h.2.1 h1, Nat.le_trans h.2.2 h2⟩
theorem sml_all {n k : Nat} : ∀ {l : List D}, (∀ x ∈ l, sml n k x) → smL l = true ∧ PyData.depthAll l ≤ n ∧ nodesL l ≤ (k + 1) * l.length
  | [], _ => ⟨rfl, Nat.zero_le _, Nat.zero_le _⟩
  | x :: l, h => by
    obtain ⟨a1, a2, a3⟩ := h x List.mem_cons_self
    obtain ⟨b1, b2, b3⟩ := sml_all (l := l) fun y hy => h y (List.mem_cons_of_mem _ hy)
    refine ⟨by rw [smL, a1, b1]; rfl, ?_, ?_⟩
    · simp only [PyData.depthAll]
      omega
    · simp only [nodesL, List.length_cons, Nat.mul_add, Nat.mul_one]
      omega
theorem sml_tup {n k : Nat} {l : List D} (h : ∀ x ∈ l, sml n k x) : sml (n + 1) ((k + 1) * l.length) (.tuple l) := by
  obtain ⟨a1, a2, a3⟩ := sml_all h
  refine ⟨by rw [smD]; exact a1, ?_, by rw [nodes]; exact a3⟩
  simp only [PyData.depth]
  omega
theorem sml_lst {n k : Nat} {l : List D} (h : ∀ x ∈ l, sml n k x) : sml (n + 1) ((k + 1) * l.length) (.list l) := by
  obtain ⟨a1, a2, a3⟩ := sml_all h
  refine ⟨by rw [smD]; exact a1, ?_, by rw [nodes]; exact a3⟩
  simp only [PyData.depth]
  omega
theorem sml_nm {x : Str} (h : nm x) : sml 0 1 (.str x) := ⟨h, by simp [PyData.depth], by simp [nodes]⟩
theorem sml_int {i : Int} (h : i.natAbs < 1000000000000) : sml 0 1 (.int i) := ⟨by simpa [smD] using h, by simp [PyData.depth], by simp [nodes]⟩
theorem sml_nn : sml 0 1 .none := ⟨rfl, by simp [PyData.depth], by simp [nodes]⟩
/-- a literal text -/
theorem sml_s {x : Str} (h : smD (.str x) = true) : sml 0 1 (.str x) := sml_nm h
theorem sml_col {x : Str} (h : nm x) : sml 1 4 (exD (.col x)) := by
  have := sml_tup (n := 0) (k := 1) (l := [.str "column", .str x]) fun y hy => by
    simp only [List.mem_cons, List.not_mem_nil, or_false] at hy
    rcases hy with rfl | rfl
    · exact sml_s (by decide +kernel)
    · exact sml_nm h
  exact this
theorem sml_val {d : D} (h : sml 0 1 d) : sml 1 4 (exD (.val d)) := by
  have := sml_tup (n := 0) (k := 1) (l := [.str "value", d]) fun y hy => by
    simp only [List.mem_cons, List.not_mem_nil, or_false] at hy
    rcases hy with rfl | rfl
    · exact sml_s (by decide +kernel)
    · exact h
  exact this
theorem sml_sg (s : Sg) : sml 0 1 (.str (sgS s)) := by
  cases s <;> exact sml_s (by decide +kernel)
theorem sml_bin {n k : Nat} {s : Sg} {a b : Ex} (hn : 0 ≤ n) (hk : 1 ≤ k) (h1 : sml n k (exD a)) (h2 : sml n k (exD b)) : sml (n + 1) ((k + 1) * 4) (exD (.bin s a b)) := by
  have := sml_tup (n := n) (k := k) (l := [.str "binary", .str (sgS s), exD a, exD b]) fun y hy => by
    simp only [List.mem_cons, List.not_mem_nil, or_false] at hy
    rcases hy with rfl | rfl | rfl | rfl
    · exact sml_mono (sml_s (by decide +kernel)) hn hk
    · exact sml_mono (sml_sg s) hn hk
    · exact h1
    · exact h2
  exact this
theorem sml_not {n k : Nat} {a : Ex} (hk : 1 ≤ k) (h1 : sml n k (exD a)) : sml (n + 1) ((k + 1) * 2) (exD (.not a)) := by
  have := sml_tup (n := n) (k := k) (l := [.str "not", exD a]) fun y hy => by
    simp only [List.mem_cons, List.not_mem_nil, or_false] at hy
    rcases hy with rfl | rfl
    · exact sml_mono (sml_s (by decide +kernel)) (Nat.zero_le _) hk
    · exact h1
  exact this
theorem sml_null {n k : Nat} {a : Ex} (hk : 1 ≤ k) (h1 : sml n k (exD a)) : sml (n + 1) ((k + 1) * 2) (exD (.null a)) := by
  have := sml_tup (n := n) (k := k) (l := [.str "null", exD a]) fun y hy => by
    simp only [List.mem_cons, List.not_mem_nil, or_false] at hy
    rcases hy with rfl | rfl
    · exact sml_mono (sml_s (by decide +kernel)) (Nat.zero_le _) hk
    · exact h1
  exact this
def okEx (e : Ex) : Prop := hgt e ≤ 6 ∧ wfE [] e ∧ sml 3 100 (exD e)
theorem wf_col {x : Str} (h : nm x) : wfE [] (.col x) := ⟨fun _ _ => rfl, by have := (nm_ok h).2; omega⟩
theorem ck_n : ckind .none := .inl rfl
theorem ck_s {s : Str} : ckind (.str s) := .inr ⟨s, rfl⟩
theorem wo_i2 {a b : D} {n : Int} {Q : D → Prop} (h1 : Q a) (h2 : Q b) : Wo (ixA [a, b] (n % 2)) Q := by
  refine wo_ix (by omega) (by simp only [List.length_cons, List.length_nil]; omega) fun x hx => ?_
  simp only [List.mem_cons, List.not_mem_nil, or_false] at hx
  rcases hx with rfl | rfl <;> assumption
theorem wo_i3 {a b c : D} {n : Int} {Q : D → Prop} (h1 : Q a) (h2 : Q b) (h3 : Q c) : Wo (ixA [a, b, c] (n % 3)) Q := by
  refine wo_ix (by omega) (by simp only [List.length_cons, List.length_nil]; omega) fun x hx => ?_
  simp only [List.mem_cons, List.not_mem_nil, or_false] at hx
  rcases hx with rfl | rfl | rfl <;> assumption
def okLf (e : Ex) : Prop := hgt e = 1 ∧ wfE [] e ∧ sml 1 4 (exD e)
theorem lf_col {x : Str} (h : nm x) : okLf (.col x) := ⟨rfl, wf_col h, sml_col h⟩
theorem lf_val {d : D} (h1 : gv d) (h2 : isV d = true) : okLf (.val d) := ⟨rfl, ⟨h1, h2⟩, sml_val ⟨sm_of h1 h2, by rw [depth_v h1]; exact Nat.le_refl 0, by rw [nodes_v h1]; exact Nat.le_refl 1⟩⟩
theorem lf_ex {e : Ex} (h : okLf e) : okEx e := ⟨by rw [h.1]; omega, h.2.1, sml_mono h.2.2 (by omega) (by omega)⟩
theorem sm_bin {s : Sg} {a b : Ex} (h1 : okLf a) (h2 : okLf b) : sml 2 20 (exD (.bin s a b)) := sml_bin (n := 1) (k := 4) (by omega) (by omega) h1.2.2 h2.2.2
theorem bin_ex {s : Sg} {a b : Ex} (h1 : okLf a) (h2 : okLf b) : okEx (.bin s a b) := ⟨by rw [hgt, h1.1, h2.1]; decide, ⟨h1.2.1, h2.2.1⟩, sml_mono (sm_bin h1 h2) (by omega) (by omega)⟩
theorem wo_where {F : Fs} {row : Int} {Q : D → Prop} (hF : FsOk F) (q : ∀ e, okEx e → Q (exD e)) : Wo (f__law_where [tpF F, .int row]) Q := by
  unfold f__law_where
  rw [wo_runV]
  show Ws g__law_where [some (.val (tpF F)), some (.val (.int row)), none, none, none, none] _
  unfold g__law_where
  simp! []
  refine wo_columns hF ck_s fun ns hn hl => ?_
  try simp! []
  refine wo_pick hn fun x hx => ?_
  have iv : ∀ n m : Int, 0 < m → m ≤ 1000 → okLf (.val (.int (n % m))) := fun n m h1 h2 => lf_val (gv_int _) (isV_int (by have := Int.emod_nonneg n (show m ≠ 0 by omega); have := Int.emod_lt_of_pos n h1; omega))
  split
  · exact wo_i3 (q (.val (.bool true)) (lf_ex (lf_val (gv_bool _) rfl))) (q (.val (.bool false)) (lf_ex (lf_val (gv_bool _) rfl))) (q (.val .none) (lf_ex (lf_val gv_none rfl)))
  split
  · exact wo_i3 (q (.bin .lt (.col x) (.val (.int _))) (bin_ex (lf_col hx) (iv _ _ (by omega) (by omega)))) (q (.bin .le (.col x) (.val (.int _))) (bin_ex (lf_col hx) (iv _ _ (by omega) (by omega)))) (q (.bin .eq (.col x) (.val (.int _))) (bin_ex (lf_col hx) (iv _ _ (by omega) (by omega))))
  split
  · refine wo_columns hF ck_s fun ns hn hl => ?_
    refine wo_pick hn fun x hx => ?_
    exact q (.col x) (lf_ex (lf_col hx))
  split
  · refine wo_columns hF ck_s fun ns hn hl => ?_
    refine wo_pick hn fun x hx => ?_
    exact wo_i2 (q (.bin .eq (.col x) (.val (.str "a"))) (bin_ex (lf_col hx) (lf_val ⟨rfl, by decide +kernel⟩ (by decide +kernel)))) (q (.bin .eq (.col x) (.val (.str "b"))) (bin_ex (lf_col hx) (lf_val ⟨rfl, by decide +kernel⟩ (by decide +kernel))))
  split
  · refine wo_columns hF ck_n fun ns hn hl => ?_
    refine wo_pick hn fun x hx => ?_
    exact q (.not (.null (.col x))) ⟨by simp [hgt], wf_col hx, sml_mono (sml_not (by omega) (sml_null (by omega) (sml_col hx))) (by omega) (by omega)⟩
  · have one : okLf (.val (.int 1)) := lf_val (gv_int _) (isV_int (by omega))
    exact q (.bin .or (.null (.col x)) (.bin .lt (.val (.int 1)) (.col x))) ⟨by simp [hgt], ⟨wf_col hx, one.2.1, wf_col hx⟩, sml_mono (sml_bin (n := 2) (k := 20) (by omega) (by omega) (sml_mono (sml_null (by omega) (sml_col hx)) (by omega) (by omega)) (sm_bin one (lf_col hx))) (by omega) (by omega)⟩
/-- names out of an operator -/
def nmO : Op → Prop
  | .map to => ∀ p ∈ to, nm p.1
  | .group ks as => (∀ x ∈ ks, nm x) ∧ ∀ a ∈ as, nm a.n
  | .window ks as _ => (∀ x ∈ ks, nm x) ∧ ∀ a ∈ as, nm a.n
  | _ => True
def okO (o : Op) : Prop := short o ∧ wfO o ∧ nmO o ∧ sml 5 262 (opD o)
theorem nm_l {x : Str} (h : nm x) : x.length ≤ 1000 := by have := (nm_ok h).2; omega
theorem toS_sml {p : Str × Ex} {k : Nat} (hn : nm p.1) (hk : 1 ≤ k) (h : sml 2 k (exD p.2)) : sml 3 ((k + 1) * 2) (toS p) := by
  have := sml_tup (n := 2) (k := k) (l := [.str p.1, exD p.2]) fun y hy => by
    simp only [List.mem_cons, List.not_mem_nil, or_false] at hy
    rcases hy with rfl | rfl
    · exact sml_mono (sml_nm hn) (by omega) hk
    · exact h
  exact this
theorem map_ok {to : List (Str × Ex)} {k m : Nat} (h : ∀ p ∈ to, nm p.1 ∧ okEx p.2 ∧ sml 2 k (exD p.2)) (hk : 1 ≤ k) (hl : to.length ≤ m) (hm : ((k + 1) * 2 + 1) * m ≤ 130) (hz : m ≤ 400) : okO (.map to) := by
  refine ⟨fun p hp => ⟨nm_l (h p hp).1, (h p hp).2.1.1, (h p hp).2.1.2.1⟩, ?_, fun p hp => (h p hp).1, ?_⟩
  · show to.length ≤ 400
    omega
  · have h1 := sml_tup (n := 3) (k := (k + 1) * 2) (l := to.map toS) fun y hy => by
      obtain ⟨p, hp, rfl⟩ := List.mem_map.mp hy
      exact toS_sml (h p hp).1 hk (h p hp).2.2
    have h2 : sml 4 130 (.tuple (to.map toS)) := sml_mono h1 (by omega) (by
      rw [List.length_map]
      exact Nat.le_trans (Nat.mul_le_mul_left _ hl) hm)
    have := sml_tup (n := 4) (k := 130) (l := [.str "map", .tuple (to.map toS)]) fun y hy => by
      simp only [List.mem_cons, List.not_mem_nil, or_false] at hy
      rcases hy with rfl | rfl
      · exact sml_mono (sml_s (by decide +kernel)) (by omega) (by omega)
      · exact h2
    exact this
theorem wo_sg {n : Int} {Q : D → Prop} (q : ∀ s : Sg, Q (.str (sgS s))) : Wo (ixA [.str "+", .str "*", .str "/"] (n % 3)) Q := wo_i3 (q .add) (q .mul) (q .div)
theorem nm_u : nm "u" ∧ nm "v" ∧ nm "w" ∧ nm "x" := by unfold nm; decide +kernel
theorem wo_i4 {n : Int} {Q : D → Prop} (q : ∀ x : Str, nm x → Q (.str x)) : Wo (ixA [.str "u", .str "v", .str "w", .str "x"] (n % 4)) Q := by
  refine wo_ix (by omega) (by simp only [List.length_cons, List.length_nil]; omega) fun x hx => ?_
  simp only [List.mem_cons, List.not_mem_nil, or_false] at hx
  rcases hx with rfl | rfl | rfl | rfl
  · exact q _ nm_u.1
  · exact q _ nm_u.2.1
  · exact q _ nm_u.2.2.1
  · exact q _ nm_u.2.2.2
theorem wo_map {F : Fs} {row : Int} {Q : D → Prop} (hF : FsOk F) (q : ∀ o, okO o → Q (opD o)) : Wo (f__law_map [tpF F, .int row]) Q := by
  unfold f__law_map
  rw [wo_runV]
  show Ws g__law_map [some (.val (tpF F)), some (.val (.int row)), none, none, none, none, none, none, none, none] _
  unfold g__law_map
  generalize hB : (sSeq (sSet 6 (gApp mkTup (gCons (gC (.str "column")) (gCons (gApp f__law_pick (gCons (gVar 2) (gCons (gBin fdivD (gVar 1) (gBin addD (gC (.int 8)) (gBin mulL (gC (.int 5)) (gVar 5)))) gNil))) gNil)))) _) = B
  simp! []
  refine wo_columns hF ck_n fun ns hn hl => ?_
  try simp! [List.length_map]
  split
  · refine ⟨⟨by omega, rfl⟩, ?_⟩
    refine lc_mapA PyData.str (fun x => toS (x, .col x)) _ (fun x _ => ?_) ?_
    · simp! []
      all_goals first | rfl | trivial
    · simp! []
      have := q (.map (ns.map fun x => (x, .col x))) (map_ok (k := 4) (m := 8) (fun p hp => by
        obtain ⟨x, hx, rfl⟩ := List.mem_map.mp hp
        exact ⟨hn x hx, lf_ex (lf_col (hn x hx)), sml_mono (sml_col (hn x hx)) (by omega) (by omega)⟩) (by omega) (by rw [List.length_map]; exact hl) (by omega) (by omega))
      rw [opD, List.map_map] at this
      exact this
  · obtain ⟨c, hc, hc3⟩ := modN (row / 4) (show (0 : Int) < 3 by decide)
    rw [hc]
    have hs : small62 (1 + (c : Int)) = true := by
      unfold small62
      exact decide_eq_true (by omega)
    rw [if_pos hs, show (1 + (c : Int)).toNat = 1 + c by omega, rng_map]
    refine ws_forA (fun i : Nat => PyData.int i) (fun p ρ => ∃ (to : List (Str × Ex)) (o5 o6 o7 o8 : Option Cell), (canSet (some o5) = some () ∧ canSet (some o6) = some () ∧ canSet (some o7) = some () ∧ canSet (some o8) = some ()) ∧ to.length = p.length ∧ (∀ p ∈ to, nm p.1 ∧ okEx p.2 ∧ sml 2 20 (exD p.2)) ∧ ρ = [some (.val (tpF F)), some (.val (.int row)), some (.val (.list (ns.map PyData.str))), some (.val (.list [.str "u", .str "v", .str "w", .str "x"])), some (.own false (.list (to.map toS))), o5, o6, o7, o8, none]) ⟨[], none, none, none, none, ⟨rfl, rfl, rfl, rfl⟩, rfl, by simp, rfl⟩ ?_ ?_
    · rintro p j r ρ e ⟨to, o5, o6, o7, o8, ⟨h5, h6, h7, h8⟩, hl2, hto, rfl⟩
      obtain ⟨e1, e2⟩ := rng_split e
      subst hB
      have f8 : (0 : Int) < 8 + 5 * (j : Int) ∧ 8 + 5 * (j : Int) < 18446744073709551616 := by omega
      have f9 : (0 : Int) < 9 + 5 * (j : Int) ∧ 9 + 5 * (j : Int) < 18446744073709551616 := by omega
      have f11 : (0 : Int) < 11 + (j : Int) ∧ 11 + (j : Int) < 18446744073709551616 := by omega
      simp! [h5, h6, h7, h8, f8.1, f8.2, f9.1, f9.2, f11.1, f11.2]
      refine wo_pick hn fun x hx => ?_
      try simp! [h5, h6, h7, h8, f8.1, f8.2, f9.1, f9.2, f11.1, f11.2]
      refine wo_columns hF ck_s fun ns2 hn2 hl3 => ?_
      refine wo_pick hn2 fun y hy => ?_
      try simp! [h5, h6, h7, h8, f8.1, f8.2, f9.1, f9.2, f11.1, f11.2]
      refine wo_sg fun s => ?_
      try simp! [h5, h6, h7, h8, f8.1, f8.2, f9.1, f9.2, f11.1, f11.2]
      refine wo_i4 fun z hz => ?_
      have add : ∀ e : Ex, okEx e → sml 2 20 (exD e) → ∀ (a : Str) (b : Ex), (a, b) ∈ to ++ [(z, e)] → nm a ∧ okEx b ∧ sml 2 20 (exD b) := fun e h1 h2 a b hm => by
        rcases List.mem_append.mp hm with hm | hm
        · exact hto (a, b) hm
        · cases List.mem_singleton.mp hm
          exact ⟨hz, h1, h2⟩
      have cx : okEx (.col x) ∧ sml 2 20 (exD (.col x)) := ⟨lf_ex (lf_col hx), sml_mono (sml_col hx) (by omega) (by omega)⟩
      have bx : okEx (.bin s (.col y) (.val (.int (row / 48 % 3)))) ∧ sml 2 20 (exD (.bin s (.col y) (.val (.int (row / 48 % 3))))) := by
        have v : okLf (.val (.int (row / 48 % 3))) := lf_val (gv_int _) (isV_int (by omega))
        exact ⟨bin_ex (lf_col hy) v, sm_bin (lf_col hy) v⟩
      refine wo_i3 ?_ ?_ ?_
      · refine ⟨by omega, to ++ [(z, .col x)], _, _, _, _, ⟨?_, ?_, ?_, ?_⟩, by simp [hl2], add _ cx.1 cx.2, by rw [List.map_append]; rfl, rfl, rfl, rfl, rfl⟩ <;> rfl
      · refine ⟨by omega, to ++ [(z, .bin s (.col y) (.val (.int (row / 48 % 3))))], _, _, _, _, ⟨?_, ?_, ?_, ?_⟩, by simp [hl2], add _ bx.1 bx.2, by rw [List.map_append]; rfl, rfl, rfl, rfl, rfl⟩ <;> rfl
      · refine ⟨by omega, to ++ [(z, .col x)], _, _, _, _, ⟨?_, ?_, ?_, ?_⟩, by simp [hl2], add _ cx.1 cx.2, by rw [List.map_append]; rfl, rfl, rfl, rfl, rfl⟩ <;> rfl
    · rintro ρ ⟨to, o5, o6, o7, o8, ⟨h5, h6, h7, h8⟩, hl2, hto, rfl⟩
      simp! []
      rw [List.length_range] at hl2
      have := q (.map to) (map_ok (k := 20) (m := 3) hto (by omega) (by omega) (by omega) (by omega))
      exact this
theorem wo_keys {F : Fs} {row l : Int} {Q : D → Prop} (hF : FsOk F) (h0 : 0 ≤ l) (h1 : l ≤ 1) (q : ∀ ks : List Str, (∀ x ∈ ks, nm x) → ks.length ≤ 2 → Q (.tuple (ks.map PyData.str))) : Wo (f__law_keys [tpF F, .int row, .int l]) Q := by
  unfold f__law_keys
  rw [wo_runV]
  show Ws g__law_keys [some (.val (tpF F)), some (.val (.int row)), some (.val (.int l)), none, none, none, none] _
  unfold g__law_keys
  generalize hB : (sSeq (sSet 6 (gApp f__law_pick (gCons (gVar 3) (gCons (gBin fdivD (gVar 1) (gBin addD (gC (.int 3)) (gBin mulL (gC (.int 4)) (gVar 5)))) gNil)))) _) = B
  simp! []
  refine wo_columns hF ck_n fun ns hn hl => ?_
  simp! []
  obtain ⟨c, hc, hc2⟩ := modN row (show (0 : Int) < 2 by decide)
  obtain ⟨b, rfl⟩ : ∃ b : Nat, l = b := ⟨l.toNat, by omega⟩
  rw [hc]
  have hs : small62 ((b : Int) + (c : Int)) = true := by
    unfold small62
    exact decide_eq_true (by omega)
  refine ⟨hs, ?_⟩
  rw [show ((b : Int) + (c : Int)).toNat = b + c by omega, rng_map]
  refine ws_forA (fun i : Nat => PyData.int i) (fun p ρ => ∃ (ks : List Str) (o5 o6 : Option Cell), (canSet (some o5) = some () ∧ canSet (some o6) = some ()) ∧ ks.length ≤ p.length ∧ (∀ x ∈ ks, nm x) ∧ ρ = [some (.val (tpF F)), some (.val (.int row)), some (.val (.int b)), some (.val (.list (ns.map PyData.str))), some (.own false (.list (ks.map PyData.str))), o5, o6]) ⟨[], none, none, ⟨rfl, rfl⟩, Nat.le_refl _, by simp, rfl⟩ ?_ ?_
  · rintro p j r ρ e ⟨ks, o5, o6, ⟨h5, h6⟩, hl2, hks, rfl⟩
    obtain ⟨e1, e2⟩ := rng_split e
    subst hB
    have f8 : (0 : Int) < 3 + 4 * (j : Int) ∧ 3 + 4 * (j : Int) < 18446744073709551616 := by omega
    simp! [h5, h6, f8.1, f8.2]
    refine wo_pick hn fun x hx => ?_
    have hi := in_strs (nm_ok hx).1 fun y hy => (nm_ok (hks y hy)).1
    by_cases m : x ∈ ks
    · have hi : inT (.str x) (.list (ks.map PyData.str)) = some true := by rw [hi]; simp [m]
      simp! [h5, h6, hi]
      refine ⟨ks, _, _, ⟨?_, ?_⟩, by simp; omega, hks, rfl⟩ <;> rfl
    · have hi : inT (.str x) (.list (ks.map PyData.str)) = some false := by rw [hi]; simp [m]
      simp! [h5, h6, hi, List.length_map]
      refine ⟨by omega, ks ++ [x], _, _, ⟨?_, ?_⟩, by simp; omega, fun y hy => ?_, by rw [List.map_append]; rfl⟩
      · rfl
      · rfl
      · rcases List.mem_append.mp hy with hy | hy
        · exact hks y hy
        · rw [List.mem_singleton.mp hy]
          exact hx
  · rintro ρ ⟨ks, o5, o6, ⟨h5, h6⟩, hl2, hks, rfl⟩
    simp! []
    rw [List.length_range] at hl2
    exact q ks hks (by omega)
theorem wo_on {F G : Fs} {row : Int} {Q : D → Prop} (hF : FsOk F) (hG : FsOk G) (q : ∀ a b : Str, nm a → nm b → Q (.tuple ([(a, b)].map prS))) : Wo (f__law_on [tpF F, tpF G, .int row]) Q := by
  unfold f__law_on
  rw [wo_runV]
  show Ws g__law_on [some (.val (tpF F)), some (.val (tpF G)), some (.val (.int row)), none, none, none] _
  unfold g__law_on
  simp! []
  refine wo_columns hF ck_n fun ns hn hl => ?_
  refine wo_pick hn fun a ha => ?_
  have h8 := hF.1
  have et : tpF F = .tuple (F.map fdD) := rfl
  simp! [et, List.length_map]
  refine ⟨⟨by omega, rfl⟩, ?_⟩
  refine lc_filterA fdD (fun p => .str p.2) (fun p => decide (p.1 = a)) _ (fun p hp => ?_) ?_
  · unfold fdD
    by_cases h2 : p.1 = a
    · simp! [h2]
      all_goals first | rfl | trivial
    · simp! [h2]
      all_goals first | rfl | trivial
  · cases hf : F.filter (fun p => decide (p.1 = a)) with
    | nil =>
      simp! [List.map_nil]
      refine wo_columns hG ck_n fun ns2 hn2 hl2 => ?_
      refine wo_pick hn2 fun b hb => ?_
      exact q a b ha hb
    | cons p ps =>
      have hp : ((0 : Int) < ((ps.length + 1 : Nat) : Int)) := by omega
      simp! [List.map_cons, List.length_map, hp]
      try refine ⟨by omega, ?_⟩
      refine wo_columns hG ck_s fun ns2 hn2 hl2 => ?_
      refine wo_pick hn2 fun b hb => ?_
      exact q a b ha hb
theorem sml_strs {ks : List Str} (h : ∀ x ∈ ks, nm x) (hl : ks.length ≤ 2) : sml 1 4 (.tuple (ks.map PyData.str)) := by
  have := sml_tup (n := 0) (k := 1) (l := ks.map PyData.str) fun y hy => by
    obtain ⟨x, hx, rfl⟩ := List.mem_map.mp hy
    exact sml_nm (h x hx)
  exact sml_mono this (Nat.le_refl _) (by rw [List.length_map]; omega)
def okAg (a : Ag) : Prop := nm a.n ∧ nm a.w ∧ (∀ x, a.c = some x → nm x) ∧ a.w ∈ (["count", "sum", "least", "most", "mean", "first", "last"] : List Str) ∧ (a.w ≠ "count" → ∃ x, a.c = some x)
theorem ag_sml {a : Ag} (h : okAg a) : sml 1 6 (agD a) := by
  have hc : sml 0 1 (cD a.c) := by
    cases q : a.c with
    | none => exact sml_nn
    | some x => exact sml_nm (h.2.2.1 x q)
  have := sml_tup (n := 0) (k := 1) (l := [.str a.n, .str a.w, cD a.c]) fun y hy => by
    simp only [List.mem_cons, List.not_mem_nil, or_false] at hy
    rcases hy with rfl | rfl | rfl
    · exact sml_nm h.1
    · exact sml_nm h.2.1
    · exact hc
  exact this
theorem ags_sml {as : List Ag} (h : ∀ a ∈ as, okAg a) (hl : as.length ≤ 2) : sml 2 14 (.tuple (as.map agD)) := by
  have := sml_tup (n := 1) (k := 6) (l := as.map agD) fun y hy => by
    obtain ⟨x, hx, rfl⟩ := List.mem_map.mp hy
    exact ag_sml (h x hx)
  exact sml_mono this (Nat.le_refl _) (by rw [List.length_map]; omega)
theorem pr_sml {a b : Str} (ha : nm a) (hb : nm b) : sml 2 5 (.tuple ([(a, b)].map prS)) := by
  have h1 := sml_tup (n := 0) (k := 1) (l := [.str a, .str b]) fun y hy => by
    simp only [List.mem_cons, List.not_mem_nil, or_false] at hy
    rcases hy with rfl | rfl
    · exact sml_nm ha
    · exact sml_nm hb
  have := sml_tup (n := 1) (k := 4) (l := [(a, b)].map prS) fun y hy => by
    simp only [List.map_cons, List.map_nil, List.mem_cons, List.not_mem_nil, or_false] at hy
    rw [hy]
    exact h1
  exact this
theorem nm_w : nm "count" ∧ nm "sum" ∧ nm "least" ∧ nm "most" ∧ nm "mean" ∧ nm "first" ∧ nm "last" := by unfold nm; decide +kernel
theorem nm_g {n : Int} (h0 : 0 ≤ n) (h1 : n ≤ 2) : ("g" : Str).length + ((toString n : String) : Str).length ≤ 16777216 ∧ nm (("g" : Str) ++ ((toString n : String) : Str)) := by
  have : n = 0 ∨ n = 1 ∨ n = 2 := by omega
  unfold nm
  rcases this with rfl | rfl | rfl <;> exact ⟨by decide +kernel, by decide +kernel⟩
theorem wo_aggs {F : Fs} {row : Int} {ms : List D} {Q : D → Prop} (hF : FsOk F) (hm : ms = [] ∨ ms = [.str "first", .str "last"]) (q : ∀ as : List Ag, (∀ a ∈ as, okAg a) → as.length ≤ 2 → Q (.tuple (as.map agD))) : Wo (f__law_aggs [tpF F, .int row, .list ms]) Q := by
  unfold f__law_aggs
  rw [wo_runV]
  show Ws g__law_aggs [some (.val (tpF F)), some (.val (.int row)), some (.val (.list ms)), none, none, none, none, none, none] _
  unfold g__law_aggs
  generalize hB : (sSeq (sSet 6 (gBin ixD (gVar 3) (gBin modD (gApp intF (gCons (gBin fdivD (gVar 1) (gBin addD (gC (.int 2)) (gBin mulL (gC (.int 3)) (gVar 5)))) gNil)) (gApp lenF (gCons (gVar 3) gNil))))) _) = B
  obtain ⟨W, hz, hW, hW2, hWl⟩ : ∃ W : List Str, ms.length ≤ 100 ∧ ([.str "count", .str "sum", .str "least", .str "most", .str "mean"] : List D) ++ ms = W.map PyData.str ∧ (∀ x ∈ W, x ∈ (["count", "sum", "least", "most", "mean", "first", "last"] : List Str)) ∧ 0 < W.length := by
    rcases hm with rfl | rfl
    · exact ⟨["count", "sum", "least", "most", "mean"], by simp, rfl, by simp, by simp⟩
    · exact ⟨["count", "sum", "least", "most", "mean", "first", "last"], by simp, rfl, by simp, by simp⟩
  obtain ⟨c, hc, hc2⟩ := modN row (show (0 : Int) < 2 by decide)
  have hs : small62 (1 + (c : Int)) = true := by
    unfold small62
    exact decide_eq_true (by omega)
  have h5m : 5 + ms.length ≤ 16777216 := by omega
  simp! [hW, hc, h5m, hs]
  rw [show (1 + (c : Int)).toNat = 1 + c by omega, rng_map]
  refine ws_forA (fun i : Nat => PyData.int i) (fun p ρ => ∃ (as : List Ag) (o5 o6 o7 o8 : Option Cell), (canSet (some o5) = some () ∧ canSet (some o6) = some () ∧ canSet (some o7) = some () ∧ canSet (some o8) = some ()) ∧ as.length = p.length ∧ (∀ a ∈ as, okAg a) ∧ ρ = [some (.val (tpF F)), some (.val (.int row)), some (.val (.list ms)), some (.val (.list (W.map PyData.str))), some (.own false (.list (as.map agD))), o5, o6, o7, o8]) ⟨[], none, none, none, none, ⟨rfl, rfl, rfl, rfl⟩, rfl, by simp, rfl⟩ ?_ ?_
  · rintro p j r ρ e ⟨as, o5, o6, o7, o8, ⟨h5, h6, h7, h8⟩, hl2, has, rfl⟩
    obtain ⟨e1, e2⟩ := rng_split e
    subst hB
    have f2 : (0 : Int) < 2 + 3 * (j : Int) ∧ 2 + 3 * (j : Int) < 18446744073709551616 := by omega
    have f20 : (0 : Int) < 20 + (j : Int) ∧ 20 + (j : Int) < 18446744073709551616 := by omega
    have fW : (0 : Int) < ((W.length : Nat) : Int) := by omega
    obtain ⟨b, hb, hb2⟩ := modN (row / 60) (show (0 : Int) < 2 by decide)
    have hg := nm_g (n := (j : Int) + (b : Int)) (by omega) (by omega)
    have hlg : ((j : Int) + (b : Int)).natAbs.log2 < 1920 := by
      have := int_log (i := (j : Int) + (b : Int)) (by omega)
      omega
    simp! [h5, h6, h7, h8, f2.1, f2.2, fW, List.length_map]
    refine wo_ix (Int.emod_nonneg _ (by omega)) (by rw [List.length_map]; exact Int.emod_lt_of_pos _ fW) fun d hd => ?_
    obtain ⟨w, hw, rfl⟩ := List.mem_map.mp hd
    have hw7 := hW2 w hw
    have nw : nm w := by
      obtain ⟨n1, n2, n3, n4, n5, n6, n7⟩ := nm_w
      simp only [List.mem_cons, List.not_mem_nil, or_false] at hw7
      rcases hw7 with rfl | rfl | rfl | rfl | rfl | rfl | rfl <;> assumption
    obtain ⟨b1, hb1⟩ : ∃ b1, inT (.str w) (.tuple [.str "sum", .str "mean"]) = some b1 := by
      simp only [List.mem_cons, List.not_mem_nil, or_false] at hw7
      rcases hw7 with rfl | rfl | rfl | rfl | rfl | rfl | rfl
      · exact ⟨_, iw_s_count⟩
      · exact ⟨_, iw_s_sum⟩
      · exact ⟨_, iw_s_least⟩
      · exact ⟨_, iw_s_most⟩
      · exact ⟨_, iw_s_mean⟩
      · exact ⟨_, iw_s_first⟩
      · exact ⟨_, iw_s_last⟩
    have fin : ∀ cc : Option Str, (∀ x, cc = some x → nm x) → (w ≠ "count" → ∃ x, cc = some x) → ∀ a ∈ as ++ [(⟨("g" : Str) ++ ((toString ((j : Int) + (b : Int)) : String) : Str), w, cc⟩ : Ag)], okAg a := fun cc c1 c2 a ha => by
      rcases List.mem_append.mp ha with ha | ha
      · exact has a ha
      · rw [List.mem_singleton.mp ha]
        exact ⟨hg.2, nw, c1, hw7, c2⟩
    cases b1
    · simp! [hb1, f20.1, f20.2, hb, hlg, hg.1, str_iff]
      refine wo_columns hF ck_n fun ns hn hl => ?_
      refine wo_pick hn fun x hx => ?_
      by_cases wc : w = "count"
      · by_cases r0 : row / 7 % 2 = 0
        · try simp! [wc, r0]
          refine ⟨by omega, as ++ [⟨_, _, none⟩], _, _, _, _, ⟨?_, ?_, ?_, ?_⟩, by simp [hl2], by have f0 := fin none (fun _ z => by cases z) (fun z => absurd wc z); rw [wc] at f0; exact f0, by rw [List.map_append]; rfl⟩ <;> rfl
        · try simp! [wc, r0]
          refine ⟨by omega, as ++ [⟨_, _, some x⟩], _, _, _, _, ⟨?_, ?_, ?_, ?_⟩, by simp [hl2], by have f0 := fin (some x) (fun _ z => by cases z; exact hx) (fun z => ⟨x, rfl⟩); rw [wc] at f0; exact f0, by rw [List.map_append]; rfl⟩ <;> rfl
      · try simp! [wc]
        refine ⟨by omega, as ++ [⟨_, _, some x⟩], _, _, _, _, ⟨?_, ?_, ?_, ?_⟩, by simp [hl2], fin (some x) (fun _ z => by cases z; exact hx) (fun z => ⟨x, rfl⟩), by rw [List.map_append]; rfl⟩ <;> rfl
    · simp! [hb1, f20.1, f20.2, hb, hlg, hg.1, str_iff]
      refine wo_columns hF ck_s fun ns hn hl => ?_
      refine wo_pick hn fun x hx => ?_
      by_cases wc : w = "count"
      · by_cases r0 : row / 7 % 2 = 0
        · try simp! [wc, r0]
          refine ⟨by omega, as ++ [⟨_, _, none⟩], _, _, _, _, ⟨?_, ?_, ?_, ?_⟩, by simp [hl2], by have f0 := fin none (fun _ z => by cases z) (fun z => absurd wc z); rw [wc] at f0; exact f0, by rw [List.map_append]; rfl⟩ <;> rfl
        · try simp! [wc, r0]
          refine ⟨by omega, as ++ [⟨_, _, some x⟩], _, _, _, _, ⟨?_, ?_, ?_, ?_⟩, by simp [hl2], by have f0 := fin (some x) (fun _ z => by cases z; exact hx) (fun z => ⟨x, rfl⟩); rw [wc] at f0; exact f0, by rw [List.map_append]; rfl⟩ <;> rfl
      · try simp! [wc]
        refine ⟨by omega, as ++ [⟨_, _, some x⟩], _, _, _, _, ⟨?_, ?_, ?_, ?_⟩, by simp [hl2], fin (some x) (fun _ z => by cases z; exact hx) (fun z => ⟨x, rfl⟩), by rw [List.map_append]; rfl⟩ <;> rfl
  · rintro ρ ⟨as, o5, o6, o7, o8, ⟨h5, h6, h7, h8⟩, hl2, has, rfl⟩
    simp! []
    rw [List.length_range] at hl2
    exact q as has (by omega)
theorem op_sml {l : List D} (h : ∀ x ∈ l, sml 4 40 x) (hl : l.length ≤ 6) : sml 5 262 (.tuple l) := sml_mono (sml_tup h) (by omega) (by omega)
theorem sw {x : Str} (h : smD (.str x) = true) : sml 4 40 (.str x) := sml_mono (sml_s h) (by omega) (by omega)
theorem sk {ks : List Str} (h : ∀ x ∈ ks, nm x) (hl : ks.length ≤ 2) : sml 4 40 (.tuple (ks.map PyData.str)) := sml_mono (sml_strs h hl) (by omega) (by omega)
theorem sa {as : List Ag} (h : ∀ a ∈ as, okAg a) (hl : as.length ≤ 2) : sml 4 40 (.tuple (as.map agD)) := sml_mono (ags_sml h hl) (by omega) (by omega)
theorem sp {a b : Str} (ha : nm a) (hb : nm b) : sml 4 40 (.tuple ([(a, b)].map prS)) := sml_mono (pr_sml ha hb) (by omega) (by omega)
theorem sn {n m : Int} (h : 0 < m) (hm : m ≤ 1000) (c : Int) (hc : 0 ≤ c) (hc2 : c ≤ 1000) : sml 4 40 (.int (c + n % m)) := sml_mono (sml_int (by have := Int.emod_nonneg n (show m ≠ 0 by omega); have := Int.emod_lt_of_pos n h; omega)) (by omega) (by omega)
theorem ok_filter {e : Ex} (h : okEx e) : okO (.filter e) := by
  refine ⟨⟨h.1, h.2.1⟩, trivial, trivial, ?_⟩
  have := sml_tup (n := 3) (k := 100) (l := [.str "filter", exD e]) fun y hy => by
    simp only [List.mem_cons, List.not_mem_nil, or_false] at hy
    rcases hy with rfl | rfl
    · exact sml_mono (sml_s (by decide +kernel)) (by omega) (by omega)
    · exact h.2.2
  exact sml_mono this (by omega) (by simp)
theorem ok_distinct : okO .distinct := ⟨trivial, trivial, trivial, op_sml (l := [.str "distinct"]) (fun y hy => by rw [List.mem_singleton.mp hy]; exact sw (by decide +kernel)) (by simp)⟩
theorem ok_union : okO .union := ⟨trivial, trivial, trivial, op_sml (l := [.str "union"]) (fun y hy => by rw [List.mem_singleton.mp hy]; exact sw (by decide +kernel)) (by simp)⟩
theorem ag_short {as : List Ag} (h : ∀ a ∈ as, okAg a) : ∀ a ∈ as, a.n.length ≤ 1000 ∧ ∀ x, a.c = some x → x.length ≤ 1000 := fun a ha => ⟨nm_l (h a ha).1, fun x hx => nm_l ((h a ha).2.2.1 x hx)⟩
theorem ok_group {ks : List Str} {as : List Ag} (hk : ∀ x ∈ ks, nm x) (hl : ks.length ≤ 2) (ha : ∀ a ∈ as, okAg a) (hz : as.length ≤ 2) : okO (.group ks as) :=
  ⟨⟨fun x hx => nm_l (hk x hx), ag_short ha⟩, ⟨by omega, by omega, fun a h => (ha a h).2.2.2⟩, ⟨hk, fun a h => (ha a h).1⟩, op_sml (l := [.str "group", .tuple (ks.map PyData.str), .tuple (as.map agD)]) (fun y hy => by
    simp only [List.mem_cons, List.not_mem_nil, or_false] at hy
    rcases hy with rfl | rfl | rfl
    · exact sw (by decide +kernel)
    · exact sk hk hl
    · exact sa ha hz) (by simp)⟩
theorem ok_window {ks : List Str} {as : List Ag} {xW : D} (hk : ∀ x ∈ ks, nm x) (hl : ks.length ≤ 2) (ha : ∀ a ∈ as, okAg a) (hz : as.length ≤ 2) (hW : sml 4 40 xW) : okO (.window ks as xW) :=
  ⟨⟨fun x hx => nm_l (hk x hx), ag_short ha⟩, ⟨by omega, by omega, fun a h => (ha a h).2.2.2⟩, ⟨hk, fun a h => (ha a h).1⟩, op_sml (l := [.str "window", .tuple (ks.map PyData.str), xW, .tuple (as.map agD)]) (fun y hy => by
    simp only [List.mem_cons, List.not_mem_nil, or_false] at hy
    rcases hy with rfl | rfl | rfl | rfl
    · exact sw (by decide +kernel)
    · exact sk hk hl
    · exact hW
    · exact sa ha hz) (by simp)⟩
theorem ok_top {ks : List Str} {x y : Str} {xn : D} (hk : ∀ x ∈ ks, nm x) (hl : ks.length ≤ 2) (hx : nm x) (hy : nm y) (hn : sml 4 40 xn) : okO (.top ks [(x, y)] xn) :=
  ⟨⟨fun x hx => nm_l (hk x hx), fun p hp => by rw [List.mem_singleton.mp hp]; exact nm_l hx⟩, ⟨by omega, by simp⟩, trivial, op_sml (l := [.str "top", .tuple (ks.map PyData.str), .tuple ([(x, y)].map byS), xn]) (fun z hz => by
    simp only [List.mem_cons, List.not_mem_nil, or_false] at hz
    rcases hz with rfl | rfl | rfl | rfl
    · exact sw (by decide +kernel)
    · exact sk hk hl
    · exact sp hx hy
    · exact hn) (by simp)⟩
theorem ok_first {ks : List Str} {xt : D} (hk : ∀ x ∈ ks, nm x) (hl : ks.length ≤ 2) (hn : sml 4 40 xt) : okO (.first ks xt) :=
  ⟨fun x hx => nm_l (hk x hx), (by show ks.length ≤ 400; omega), trivial, op_sml (l := [.str "first", .tuple (ks.map PyData.str), xt]) (fun z hz => by
    simp only [List.mem_cons, List.not_mem_nil, or_false] at hz
    rcases hz with rfl | rfl | rfl
    · exact sw (by decide +kernel)
    · exact sk hk hl
    · exact hn) (by simp)⟩
theorem ps_short {a b : Str} (ha : nm a) (hb : nm b) : ∀ p ∈ [(a, b)], p.1.length ≤ 1000 ∧ p.2.length ≤ 1000 := fun p hp => by
  rw [List.mem_singleton.mp hp]
  exact ⟨nm_l ha, nm_l hb⟩
theorem ok_near {a b : Str} {xl xh xk : D} (ha : nm a) (hb : nm b) (h1 : sml 4 40 xl) (h2 : sml 4 40 xh) (h3 : sml 4 40 xk) : okO (.near [(a, b)] xl xh xk) :=
  ⟨ps_short ha hb, (by show [(a, b)].length ≤ 400; simp), trivial, op_sml (l := [.str "near", .tuple ([(a, b)].map prS), xl, xh, xk]) (fun z hz => by
    simp only [List.mem_cons, List.not_mem_nil, or_false] at hz
    rcases hz with rfl | rfl | rfl | rfl | rfl
    · exact sw (by decide +kernel)
    · exact sp ha hb
    · exact h1
    · exact h2
    · exact h3) (by simp)⟩
theorem ok_asof {a b : Str} {xk : D} (ha : nm a) (hb : nm b) (h3 : sml 4 40 xk) : okO (.asof [(a, b)] xk) :=
  ⟨ps_short ha hb, (by show [(a, b)].length ≤ 400; simp), trivial, op_sml (l := [.str "asof", .tuple ([(a, b)].map prS), xk]) (fun z hz => by
    simp only [List.mem_cons, List.not_mem_nil, or_false] at hz
    rcases hz with rfl | rfl | rfl
    · exact sw (by decide +kernel)
    · exact sp ha hb
    · exact h3) (by simp)⟩
theorem ok_join {a b : Str} (ha : nm a) (hb : nm b) : okO (.join [(a, b)]) :=
  ⟨ps_short ha hb, (by show [(a, b)].length ≤ 400; simp), trivial, op_sml (l := [.str "join", .tuple ([(a, b)].map prS)]) (fun z hz => by
    simp only [List.mem_cons, List.not_mem_nil, or_false] at hz
    rcases hz with rfl | rfl
    · exact sw (by decide +kernel)
    · exact sp ha hb) (by simp)⟩
theorem nm_k : nm "inner" ∧ nm "left" ∧ nm "up" ∧ nm "down" := by unfold nm; decide +kernel
theorem kp_at (n : Int) : ∃ x : Str, ixA [PyData.str "inner", .str "left"] (n % 2) = some (.str x) ∧ nm x := by
  have : Wo (ixA [PyData.str "inner", .str "left"] (n % 2)) fun d => ∃ x : Str, d = .str x ∧ nm x := wo_i2 ⟨_, rfl, nm_k.1⟩ ⟨_, rfl, nm_k.2.1⟩
  obtain ⟨d, e, x, rfl, h⟩ := this
  exact ⟨x, e, h⟩
theorem wW {l : List D} (h : ∀ x ∈ l, sml 0 1 x) (hl : l.length ≤ 3) : sml 4 40 (.tuple l) := sml_mono (sml_tup h) (by omega) (by omega)
theorem wo_operator {F G : Fs} {row : Int} {Q : D → Prop} (hF : FsOk F) (hG : FsOk G) (q : ∀ o, okO o → Q (opD o)) : Wo (f__law_operator [tpF F, tpF G, .int row]) Q := by
  unfold f__law_operator
  rw [wo_runV]
  show Ws g__law_operator [some (.val (tpF F)), some (.val (tpF G)), some (.val (.int row)), none, none, none, none, none] _
  unfold g__law_operator
  obtain ⟨kp, hkp, nk⟩ := kp_at (row / 13)
  have skp : sml 4 40 (.str kp) := sml_mono (sml_nm nk) (by omega) (by omega)
  simp! [hkp]
  split
  · exact wo_where hF fun e he => q (.filter e) (ok_filter he)
  split
  · exact wo_map hF q
  split
  · exact q .distinct ok_distinct
  split
  · refine wo_keys hF (by omega) (by omega) fun ks hk hl => ?_
    refine wo_aggs hF (.inl rfl) fun as ha hz => ?_
    exact q (.group ks as) (ok_group hk hl ha hz)
  split
  · refine wo_columns hF ck_n fun ns hn hl => ?_
    refine wo_pick hn fun x hx => ?_
    refine wo_i2 ?_ ?_
    · refine wo_keys hF (by omega) (by omega) fun ks hk hl => ?_
      exact q (.top ks [(x, "up")] (.int (1 + row / 13 / 18 % 3))) (ok_top hk hl hx nm_k.2.2.1 (sn (by omega) (by omega) 1 (by omega) (by omega)))
    · refine wo_keys hF (by omega) (by omega) fun ks hk hl => ?_
      exact q (.top ks [(x, "down")] (.int (1 + row / 13 / 18 % 3))) (ok_top hk hl hx nm_k.2.2.2 (sn (by omega) (by omega) 1 (by omega) (by omega)))
  split
  · have go : ∀ xW : D, sml 4 40 xW → Wo (f__law_keys [tpF F, .int (row / 13 / 3), .int 0]) fun k => Wo (f__law_aggs [tpF F, .int (row / 13 / 5), .list [.str "first", .str "last"]]) fun a => Q (.tuple [.str "window", k, xW, a]) := fun xW hW => by
      refine wo_keys hF (by omega) (by omega) fun ks hk hl => ?_
      refine wo_aggs hF (.inr rfl) fun as ha hz => ?_
      exact q (.window ks as xW) (ok_window hk hl ha hz hW)
    refine wo_i3 (go _ (wW (fun y hy => ?_) (by simp))) (go _ (wW (fun y hy => ?_) (by simp))) (go _ (wW (fun y hy => ?_) (by simp)))
    all_goals
      simp only [List.mem_cons, List.not_mem_nil, or_false] at hy
      first
        | (rcases hy with rfl | rfl | rfl <;> first | exact sml_s (by decide +kernel) | exact sml_int (by decide))
        | (rcases hy with rfl | rfl <;> first | exact sml_s (by decide +kernel) | exact sml_int (by decide))
  split
  · refine wo_keys hF (by omega) (by omega) fun ks hk hl => ?_
    exact q (.first ks (.int (1 + row / 13 / 6 % 6))) (ok_first hk hl (sn (by omega) (by omega) 1 (by omega) (by omega)))
  split
  · refine wo_on hF hG fun a b ha hb => ?_
    exact q (.near [(a, b)] (.int (-(row / 13 / 32 % 3))) (.int (row / 13 / 96 % 4)) (.str kp)) (ok_near ha hb (sml_mono (sml_int (by omega)) (by omega) (by omega)) (sml_mono (sml_int (by omega)) (by omega) (by omega)) skp)
  split
  · refine wo_on hF hG fun a b ha hb => ?_
    exact q (.asof [(a, b)] (.str kp)) (ok_asof ha hb skp)
  · refine wo_on hF hG fun a b ha hb => ?_
    refine wo_i2 ?_ ?_
    · exact q (.join [(a, b)]) (ok_join ha hb)
    · exact q .union ok_union
end Lw
set_option maxHeartbeats 4000000
namespace Lw
open PySem Dn Dm DnSo
local macro_rules | `(tactic| simp! [$xs,*]) => `(tactic| simp (maxSteps := 4000000) only [backE, wipeE, wo_some, wo_none, wm_c, wm_var, wm_frz, wm_bin, wm_un, wm_tst, wm_tru, wm_truB, wm_chain, wm_and, wm_or, wm_not, wm_andV, wm_orV, wm_notV, wm_ifE, wm_nil, wm_cons, wm_app, wm_noP, wm_part, wm_sl, wm_pk, wm_io, wm_ix, wm_inB, wm_true, wm_seq, wm_rng1, wm_rng2,
    then_nx, then_ret, then_rof, then_brk, then_cnt, ws_next, ws_brk, ws_cnt, ws_seq, ws_if, ws_ret, ws_rof, ws_drop, ws_set, ws_own, ws_asg, wo_TN, wo_TNil, wo_TCons, wo_TTup, ws_ap, ws_setIx, ws_for, for_nil, turn_nx, turn_cnt, turn_brk, turn_ret, turn_rof, wm_lc, end_ret, end_nx, end_rof, end_io, ownOf_own, valOf_val, frz_val, frz_own, frz_ownD, ixO_l, ixO_d, cOwn_own, peek_val, peek_own, peek_ownD, by_val, by_own, canSet_none, canSet_val, canSet_own, lstOf_list,
    List.getElem?_cons_zero, List.getElem?_cons_succ, List.set_cons_zero, List.set_cons_succ, List.length_cons, List.length_nil, wo_ite, wo_bind, ↓reduceIte, and_true, true_and, and_self, Bool.false_eq_true, Bool.not_true, Bool.not_false, decide_eq_true_eq, decide_true, decide_false, oneInt_int, twoInts_int,
    add_ii, add_ll, add_tt, add_ss, sub_ii, mul_ii, mulS_ii, mod_ii, fdiv_ii, neg_i, le_ii, gt_ii, ge_ii, eqT_ii, eqT_ss, eqT_bb, eqT_nn, ltT_ii, ltT_ss, wo_eqD, wo_neD, wo_ltD, wo_inD, wo_ninD, is_n, isnt_n, is_bb, isnt_bb, isN, bOf_b, iOf_i, tru_b, tru_n, tru_i, tru_l, tru_t, seq_l, seq_t, tup_l, tup_t, lst_l, lst_t, len_l, len_t, int_i, int_b, abs_i, max_ii, min_ii, ix_li, ix_ti, cut_l, cut_t, flat_i, flat_b, flat_s, ix0, ix1, ix2, mkTup, mkLst,
    add2_ll, ws_par3, three_c, ws_grp, empty_own, lOwnD_own, wm_lcW, wm_getD, wm_ind, ix3, ix4, ix_m2, ix_m1, ix_p2, ix_p1, wm_newD, ws_setK, wm_get, wm_ixK, wm_sortN, ws_ext, dOwn_own, lOwn_own, lsD_list, step_nx, step_cnt, step_brk, step_ret, step_rof, wm_reve, rev_l, rev_t, wm_opBL, repr_l, sort_l, sum_l, wm_enum, enum_l, enum_t, enumL_nil, wm_dic, wm_kvn, wm_kvc, seq_s, mulT_si, len_s, ord_c, str_i, ty_d, k_lb, k_li, k_ls, k_tb, k_ti, k_ts, k_db, k_di, k_ds, k_lt, k_tl,
    isi_1, tyOk_n, tyOk_b, tyOk_i, tyOk_s, tyOk_l, tyOk_t, ty_n, ty_b, ty_i, ty_s, ty_l, ty_t, k_nb, k_bb, k_ib, k_sb, k_ni, k_bi, k_ii, k_si, k_ns, k_bs, k_is, k_ss, k_ll, k_tt,
    Int.reduceNeg, Int.reducePow, Int.reduceLT, Int.reduceLE, Int.reduceAdd, Int.reduceSub, Int.reduceMul, Int.reduceToNat, Nat.reduceAdd, Nat.reduceLeDiff, Nat.reduceEqDiff, Int.reduceEq, reduceCtorEq, ws_grpL, empty_ownL, wo_TLst, wg_P, wg_end, wg_then, theng_nx, wg_yield, wm_callG, wo_runG, List.nil_append, wx_okD, wx_okL, wx_okB, wx_okS, wx_cons, wx_call, wx_app, wx_bin, wx_tst, wx_not, wx_ite, thenx_nx, thenx_ret, thenx_rof, thenx_brk, thenx_cnt, wx_seq, wx_if, wx_ret, wx_drop, wx_set, wx_apd, ownL_own, wx_raise, strOf_s, wx_for, ws_noX, wx_tryA, wx_try, retq_ret, either_l, either_r, endq_nx, endq_ret, hL_hd, gL_hd, wo_runX, wx_own, wl_nil, wl_cons, wx_lc, wm_keys, wm_callIOF, wm_fmt, fmt_s, fmt_i, js_s, wm_js0, wm_js, wm_sortU, wm_fT, fT_val, fT_own, ws_newT, txtC_own, ws_newTD, ws_fill, fill_nil, retn_ret, retn_nx, wx_tryN, wx_tryR, rzq_str, h1_hd, mulL_ii, mulR_ti, $xs,*])
def okTyK : Ty → Prop
  | .inl (some k) => kd k
  | _ => True
theorem bind_okK {r : Ty} {f : Option Str → Ty} (hf : ∀ t, okTyK (f t)) : okTyK (bindT r f) := by
  cases r with
  | inl t => exact hf t
  | inr m => trivial
theorem if_okK {p : Prop} [Decidable p] {k : Str} (h : kd k) : okTyK (if p then .inl (some k) else .inr differS) := by
  split
  · exact h
  · trivial
theorem kdf : kd "flag" := .inl rfl
theorem kdw : kd "whole" := .inr (.inl rfl)
theorem kdt : kd "text" := .inr (.inr rfl)
theorem look_kd {x : Str} : ∀ {ps : Fs}, (∀ p ∈ ps, kd p.2) → ∀ k, lookK ps x = some k → kd k
  | [], _, k, h => by cases h
  | p :: ps, hk, k, h => by
    unfold lookK at h
    split at h
    · cases h
      exact hk p List.mem_cons_self
    · exact look_kd (fun q hq => hk q (List.mem_cons_of_mem _ hq)) k h
theorem ty_kd {ps : Fs} (hk : ∀ p ∈ ps, kd p.2) : ∀ e : Ex, okTyK (ty ps e) := by
  intro e
  induction e with
  | col x =>
    rw [ty]
    cases h : lookK ps x with
    | none => trivial
    | some k => exact look_kd hk k h
  | val d =>
    rw [ty]
    cases d <;> first | trivial | exact kdf | exact kdw | exact kdt
  | bin s a b iha ihb =>
    rw [ty]
    refine bind_okK fun ta => bind_okK fun tb => ?_
    cases s <;> exact if_okK (by first | exact kdf | exact kdw)
  | pick c a b ihc iha ihb =>
    rw [ty]
    cases hc : ty ps c with
    | inr m => trivial
    | inl tc =>
      cases ha : ty ps a with
      | inr m => trivial
      | inl ta =>
        cases hb : ty ps b with
        | inr m => trivial
        | inl tb =>
          rw [ha] at iha
          rw [hb] at ihb
          show okTyK (if _ then _ else _)
          split
          · cases ta with
            | none => exact ihb
            | some k => exact iha
          · trivial
  | not a iha =>
    rw [ty]
    exact bind_okK fun ta => if_okK kdf
  | null a iha =>
    rw [ty]
    exact bind_okK fun ta => kdf
  | len a iha =>
    rw [ty]
    exact bind_okK fun ta => if_okK kdw
theorem tyK_kd {t : Ty} (h : okTyK t) : kd (tyK t) := by
  cases t with
  | inr m => exact kdf
  | inl t =>
    cases t with
    | none => exact kdf
    | some k => exact h
theorem tyOf_kd {F : Fs} (hF : ∀ p ∈ F, kd p.2) {x : Str} (h : (lookK F x).isNone = false) : kd (tyOf F x) := by
  unfold tyOf
  cases q : lookK F x with
  | none => rw [q] at h; cases h
  | some k => exact look_kd hF k q
theorem kd_win : ∀ p ∈ winF, nm p.1 ∧ kd p.2 := by
  have h : nm "start" ∧ nm "end" := by unfold nm; decide +kernel
  intro p hp
  simp only [winF, List.mem_cons, List.not_mem_nil, or_false] at hp
  rcases hp with rfl | rfl
  · exact ⟨h.1, kdw⟩
  · exact ⟨h.2, kdw⟩
/-- names of what is told -/
theorem outs_nm {o : Op} {F G : Fs} (ho : okO o) (hF : FsOk F) (hG : FsOk G) : ∀ p ∈ outs o F G, nm p.1 := by
  have ap : ∀ p ∈ F ++ G, nm p.1 := fun p hp => by
    rcases List.mem_append.mp hp with hp | hp
    · exact (hF.2 p hp).1
    · exact (hG.2 p hp).1
  have hn := ho.2.2.1
  cases o with
  | filter e => exact fun p hp => (hF.2 p hp).1
  | union => exact fun p hp => (hF.2 p hp).1
  | distinct => exact fun p hp => (hF.2 p hp).1
  | top ks bs xn => exact fun p hp => (hF.2 p hp).1
  | first ks xt => exact fun p hp => (hF.2 p hp).1
  | near ps xl xh xk => exact ap
  | asof ps xk => exact ap
  | join ps => exact ap
  | map to =>
    intro p hp
    obtain ⟨x, hx, rfl⟩ := List.mem_map.mp hp
    exact hn x hx
  | group ks as =>
    intro p hp
    rcases List.mem_append.mp hp with hp | hp
    · obtain ⟨x, hx, rfl⟩ := List.mem_map.mp hp
      exact hn.1 x hx
    · obtain ⟨x, hx, rfl⟩ := List.mem_map.mp hp
      exact hn.2 x hx
  | window ks as xW =>
    intro p hp
    rcases List.mem_append.mp hp with hp | hp
    · rcases List.mem_append.mp hp with hp | hp
      · obtain ⟨x, hx, rfl⟩ := List.mem_map.mp hp
        exact hn.1 x hx
      · exact (kd_win p hp).1
    · obtain ⟨x, hx, rfl⟩ := List.mem_map.mp hp
      exact hn.2 x hx
theorem outs_len {o : Op} {F G : Fs} (ho : okO o) (hF : FsOk F) (hG : FsOk G) : (outs o F G).length ≤ 1000 := by
  have h1 := hF.1
  have h2 := hG.1
  have hw := ho.2.1
  cases o with
  | map to =>
    have hw : to.length ≤ 400 := hw
    show (to.map _).length ≤ 1000
    rw [List.length_map]; omega
  | group ks as =>
    have hw1 : ks.length ≤ 400 := hw.1
    have hw2 : as.length ≤ 400 := hw.2.1
    show (ks.map _ ++ as.map _).length ≤ 1000
    rw [List.length_append, List.length_map, List.length_map]; omega
  | window ks as xW =>
    have hw1 : ks.length ≤ 400 := hw.1
    have hw2 : as.length ≤ 400 := hw.2.1
    show (ks.map _ ++ winF ++ as.map _).length ≤ 1000
    rw [List.length_append, List.length_append, List.length_map, List.length_map]
    have : winF.length = 2 := rfl
    omega
  | filter e => show F.length ≤ 1000; omega
  | union => show F.length ≤ 1000; omega
  | distinct => show F.length ≤ 1000; omega
  | top ks bs xn => show F.length ≤ 1000; omega
  | first ks xt => show F.length ≤ 1000; omega
  | near ps xl xh xk => show (F ++ G).length ≤ 1000; rw [List.length_append]; omega
  | asof ps xk => show (F ++ G).length ≤ 1000; rw [List.length_append]; omega
  | join ps => show (F ++ G).length ≤ 1000; rw [List.length_append]; omega
/-- the kinds of what is told -/
theorem outs_kd {o : Op} {F G : Fs} (ho : okO o) (hF : FsOk F) (hG : FsOk G) (hm : miss F G (nmd o) = none) : ∀ p ∈ outs o F G, kd p.2 := by
  have kF : ∀ p ∈ F, kd p.2 := fun p hp => (hF.2 p hp).2
  have ap : ∀ p ∈ F ++ G, kd p.2 := fun p hp => by
    rcases List.mem_append.mp hp with hp | hp
    · exact (hF.2 p hp).2
    · exact (hG.2 p hp).2
  have ag : ∀ a : Ag, okA F a → kd (agT F a) := fun a ha => by
    unfold agT
    cases q : a.c with
    | none => exact kdw
    | some x =>
      show kd (if _ then _ else _)
      split
      · exact kdw
      · exact tyOf_kd kF (ha.2.2 x q).2
  cases o with
  | filter e => exact kF
  | union => exact kF
  | distinct => exact kF
  | top ks bs xn => exact kF
  | first ks xt => exact kF
  | near ps xl xh xk => exact ap
  | asof ps xk => exact ap
  | join ps => exact ap
  | map to =>
    intro p hp
    obtain ⟨x, hx, rfl⟩ := List.mem_map.mp hp
    exact tyK_kd (ty_kd kF x.2)
  | group ks as =>
    obtain ⟨m1, m2⟩ := miss_l hm
    have hk := keys_ok ho.1.1 m1
    have ha := aggs_ok ho.1.2 ho.2.1.2.2 m2
    intro p hp
    rcases List.mem_append.mp hp with hp | hp
    · obtain ⟨x, hx, rfl⟩ := List.mem_map.mp hp
      exact tyOf_kd kF (hk x hx).2
    · obtain ⟨x, hx, rfl⟩ := List.mem_map.mp hp
      exact ag x (ha x hx)
  | window ks as xW =>
    obtain ⟨m1, m2⟩ := miss_l hm
    have hk := keys_ok ho.1.1 m1
    have ha := aggs_ok ho.1.2 ho.2.1.2.2 m2
    intro p hp
    rcases List.mem_append.mp hp with hp | hp
    · rcases List.mem_append.mp hp with hp | hp
      · obtain ⟨x, hx, rfl⟩ := List.mem_map.mp hp
        exact tyOf_kd kF (hk x hx).2
      · exact (kd_win p hp).2
    · obtain ⟨x, hx, rfl⟩ := List.mem_map.mp hp
      exact ag x (ha x hx)
/-- what is told may stand as an input again -/
theorem res_ok {o : Op} {F G : Fs} {b0 b1 : Bool} {r : Fs × Bool} (ho : okO o) (hF : FsOk F) (hG : FsOk G) (h : resX o F G b0 b1 = .inl r) : FsOk r.1 := by
  unfold resX at h
  split at h
  · cases h
  · rename_i hm
    split at h
    · cases h
    · split at h
      · cases h
      · split at h
        · cases h
        · split at h
          · cases h
          · split at h
            · cases h
            · rename_i h8
              cases h
              exact ⟨by show (outs o F G).length ≤ 8; omega, fun p hp => ⟨outs_nm ho hF hG p hp, outs_kd ho hF hG hm p hp⟩⟩
theorem sp_chk {o : Op} {F G : Fs} {b0 b1 : Bool} (ho : okO o) (hF : FsOk F) (hG : FsOk G) : f_check_operator [opD o, .list ((sds o F G b0 b1).map sdD)] = some (rsD (resX o F G b0 b1)) :=
  sp_check_operator ho.1 ho.2.1 (fun p hp => (hF.2 p hp).2) (fun p hp => (hG.2 p hp).2) (by have := hF.1; omega) (by have := hG.1; omega) (fun p hp => ⟨(nm_ok (outs_nm ho hF hG p hp)).1, nm_l (outs_nm ho hF hG p hp)⟩) (outs_len ho hF hG)
/-- what is told of an operator, whatever it is -/
theorem chk_cases {o : Op} {F G : Fs} {b0 b1 : Bool} (ho : okO o) (hF : FsOk F) (hG : FsOk G) : (∃ r : Fs × Bool, FsOk r.1 ∧ f_check_operator [opD o, .list ((sds o F G b0 b1).map sdD)] = some (.inl (sdD r))) ∨ ∃ m, f_check_operator [opD o, .list ((sds o F G b0 b1).map sdD)] = some (.inr ⟨"InvalidOperator", m⟩) := by
  have h := sp_chk (b0 := b0) (b1 := b1) ho hF hG
  cases q : resX o F G b0 b1 with
  | inl r =>
    rw [q] at h
    exact .inl ⟨r, res_ok ho hF hG q, h⟩
  | inr m =>
    rw [q] at h
    exact .inr ⟨m, h⟩
end Lw
set_option maxHeartbeats 4000000
namespace Lw
open PySem Dn Dm DnSo
local macro_rules | `(tactic| simp! [$xs,*]) => `(tactic| simp (maxSteps := 4000000) only [backE, wipeE, wo_some, wo_none, wm_c, wm_var, wm_frz, wm_bin, wm_un, wm_tst, wm_tru, wm_truB, wm_chain, wm_and, wm_or, wm_not, wm_andV, wm_orV, wm_notV, wm_ifE, wm_nil, wm_cons, wm_app, wm_noP, wm_part, wm_sl, wm_pk, wm_io, wm_ix, wm_inB, wm_true, wm_seq, wm_rng1, wm_rng2,
    then_nx, then_ret, then_rof, then_brk, then_cnt, ws_next, ws_brk, ws_cnt, ws_seq, ws_if, ws_ret, ws_rof, ws_drop, ws_set, ws_own, ws_asg, wo_TN, wo_TNil, wo_TCons, wo_TTup, ws_ap, ws_setIx, ws_for, for_nil, turn_nx, turn_cnt, turn_brk, turn_ret, turn_rof, wm_lc, end_ret, end_nx, end_rof, end_io, ownOf_own, valOf_val, frz_val, frz_own, frz_ownD, ixO_l, ixO_d, cOwn_own, peek_val, peek_own, peek_ownD, by_val, by_own, canSet_none, canSet_val, canSet_own, lstOf_list,
    List.getElem?_cons_zero, List.getElem?_cons_succ, List.set_cons_zero, List.set_cons_succ, List.length_cons, List.length_nil, wo_ite, wo_bind, ↓reduceIte, and_true, true_and, and_self, Bool.false_eq_true, Bool.not_true, Bool.not_false, decide_eq_true_eq, decide_true, decide_false, oneInt_int, twoInts_int,
    add_ii, add_ll, add_tt, add_ss, sub_ii, mul_ii, mulS_ii, mod_ii, fdiv_ii, neg_i, le_ii, gt_ii, ge_ii, eqT_ii, eqT_ss, eqT_bb, eqT_nn, ltT_ii, ltT_ss, wo_eqD, wo_neD, wo_ltD, wo_inD, wo_ninD, is_n, isnt_n, is_bb, isnt_bb, isN, bOf_b, iOf_i, tru_b, tru_n, tru_i, tru_l, tru_t, seq_l, seq_t, tup_l, tup_t, lst_l, lst_t, len_l, len_t, int_i, int_b, abs_i, max_ii, min_ii, ix_li, ix_ti, cut_l, cut_t, flat_i, flat_b, flat_s, ix0, ix1, ix2, mkTup, mkLst,
    add2_ll, ws_par3, three_c, ws_grp, empty_own, lOwnD_own, wm_lcW, wm_getD, wm_ind, ix3, ix4, ix_m2, ix_m1, ix_p2, ix_p1, wm_newD, ws_setK, wm_get, wm_ixK, wm_sortN, ws_ext, dOwn_own, lOwn_own, lsD_list, step_nx, step_cnt, step_brk, step_ret, step_rof, wm_reve, rev_l, rev_t, wm_opBL, repr_l, sort_l, sum_l, wm_enum, enum_l, enum_t, enumL_nil, wm_dic, wm_kvn, wm_kvc, seq_s, mulT_si, len_s, ord_c, str_i, ty_d, k_lb, k_li, k_ls, k_tb, k_ti, k_ts, k_db, k_di, k_ds, k_lt, k_tl,
    isi_1, tyOk_n, tyOk_b, tyOk_i, tyOk_s, tyOk_l, tyOk_t, ty_n, ty_b, ty_i, ty_s, ty_l, ty_t, k_nb, k_bb, k_ib, k_sb, k_ni, k_bi, k_ii, k_si, k_ns, k_bs, k_is, k_ss, k_ll, k_tt,
    Int.reduceNeg, Int.reducePow, Int.reduceLT, Int.reduceLE, Int.reduceAdd, Int.reduceSub, Int.reduceMul, Int.reduceToNat, Nat.reduceAdd, Nat.reduceLeDiff, Nat.reduceEqDiff, Int.reduceEq, reduceCtorEq, ws_grpL, empty_ownL, wo_TLst, wg_P, wg_end, wg_then, theng_nx, wg_yield, wm_callG, wo_runG, List.nil_append, wx_okD, wx_okL, wx_okB, wx_okS, wx_cons, wx_call, wx_app, wx_bin, wx_tst, wx_not, wx_ite, thenx_nx, thenx_ret, thenx_rof, thenx_brk, thenx_cnt, wx_seq, wx_if, wx_ret, wx_drop, wx_set, wx_apd, ownL_own, wx_raise, strOf_s, wx_for, ws_noX, wx_tryA, wx_try, retq_ret, either_l, either_r, endq_nx, endq_ret, hL_hd, gL_hd, wo_runX, wx_own, wl_nil, wl_cons, wx_lc, wm_keys, wm_callIOF, wm_fmt, fmt_s, fmt_i, js_s, wm_js0, wm_js, wm_sortU, wm_fT, fT_val, fT_own, ws_newT, txtC_own, ws_newTD, ws_fill, fill_nil, retn_ret, retn_nx, wx_tryN, wx_tryR, rzq_str, h1_hd, mulL_ii, mulR_ti, wx_callXO, endoq_nx, endoq_ret, $xs,*])
def sF : Fs := [("k", "text"), ("n", "whole"), ("f", "flag")]
def rF : Fs := [("j", "text"), ("m", "whole")]
theorem sF_ok : FsOk sF := by
  have h : nm "k" ∧ nm "n" ∧ nm "f" := by unfold nm; decide +kernel
  refine ⟨by decide, fun p hp => ?_⟩
  simp only [sF, List.mem_cons, List.not_mem_nil, or_false] at hp
  rcases hp with rfl | rfl | rfl
  · exact ⟨h.1, kdt⟩
  · exact ⟨h.2.1, kdw⟩
  · exact ⟨h.2.2, kdf⟩
theorem rF_ok : FsOk rF := by
  have h : nm "j" ∧ nm "m" := by unfold nm; decide +kernel
  refine ⟨by decide, fun p hp => ?_⟩
  simp only [rF, List.mem_cons, List.not_mem_nil, or_false] at hp
  rcases hp with rfl | rfl
  · exact ⟨h.1, kdt⟩
  · exact ⟨h.2, kdw⟩
theorem sp_sf : f__law_s_fields [] = some (tpF sF) := by
  rw [← wo_eq]
  unfold f__law_s_fields
  rw [wo_runV]
  show Ws g__law_s_fields [] _
  unfold g__law_s_fields
  simp! []
  rfl
theorem sp_rf : f__law_r_fields [] = some (tpF rF) := by
  rw [← wo_eq]
  unfold f__law_r_fields
  rw [wo_runV]
  show Ws g__law_r_fields [] _
  unfold g__law_r_fields
  simp! []
  rfl
def srcD (x : Str) (F : Fs) : D := .tuple [.str "source", .str x, tpF F]
abbrev Nd := D × List Int
def ndD (n : Nd) : D := .tuple [n.1, .tuple (n.2.map PyData.int)]
abbrev Ou := Fs × Bool
def outAt (os : List Ou) (j : Int) : D := ((ixA os j).map sdD).getD .none
def sid (o : Op) : Nat := if two o = true then 2 else 1
theorem sp_sides (o : Op) : f_sides_of [opD o] = some (.int (sid o)) := by
  rw [← wo_eq]
  unfold f_sides_of
  rw [wo_runV]
  show Ws g_sides_of [some (.val (opD o))] _
  unfold g_sides_of
  cases o with
  | filter c => simp! [opD, List.map_cons, List.map_nil, iw_g_filter]; rfl
  | map to => simp! [opD, List.map_cons, List.map_nil, iw_g_map]; rfl
  | union => simp! [opD, List.map_cons, List.map_nil, iw_g_union]; rfl
  | distinct => simp! [opD, List.map_cons, List.map_nil, iw_g_distinct]; rfl
  | group ks as => simp! [opD, List.map_cons, List.map_nil, iw_g_group]; rfl
  | top ks bs xn => simp! [opD, List.map_cons, List.map_nil, iw_g_top]; rfl
  | window ks as xW => simp! [opD, List.map_cons, List.map_nil, iw_g_window]; rfl
  | near ps xl xh xk => simp! [opD, List.map_cons, List.map_nil, iw_g_near]; rfl
  | asof ps xk => simp! [opD, List.map_cons, List.map_nil, iw_g_asof]; rfl
  | join ps => simp! [opD, List.map_cons, List.map_nil, iw_g_join]; rfl
  | first ks xt => simp! [opD, List.map_cons, List.map_nil, iw_g_first]; rfl
theorem op_w (o : Op) : ∃ w, ixD (opD o) (.int 0) = some (.str w) ∧ w ≠ "source" := by
  cases o <;> exact ⟨_, rfl, fun z => absurd (ofString_inj z) (by decide)⟩
theorem out_at {os : List Ou} {j : Int} (h0 : 0 ≤ j) (h1 : j < os.length) : ∃ r, os[j.toNat]? = some r ∧ outAt os j = sdD r ∧ ixA (os.map sdD) j = some (outAt os j) := by
  obtain ⟨n, rfl⟩ : ∃ n : Nat, j = n := ⟨j.toNat, by omega⟩
  have hn : n < os.length := by omega
  refine ⟨os[n], ?_, ?_, ?_⟩
  · rw [Int.toNat_natCast]
    exact List.getElem?_eq_getElem hn
  · unfold outAt
    rw [ixA_nat, List.getElem?_eq_getElem hn]
    rfl
  · unfold outAt
    rw [ixA_nat, ixA_nat, List.getElem?_map, List.getElem?_eq_getElem hn]
    rfl
theorem out_take {os : List Ou} {i : Nat} {j : Int} (h0 : 0 ≤ j) (h1 : j < i) : outAt (os.take i) j = outAt os j := by
  obtain ⟨n, rfl⟩ : ∃ n : Nat, j = n := ⟨j.toNat, by omega⟩
  unfold outAt
  rw [ixA_nat, ixA_nat, List.getElem?_take_of_lt (by omega)]
theorem out_snoc {os : List Ou} {r : Ou} {j : Int} (h0 : 0 ≤ j) (h1 : j < os.length) : outAt (os ++ [r]) j = outAt os j := by
  obtain ⟨n, rfl⟩ : ∃ n : Nat, j = n := ⟨j.toNat, by omega⟩
  unfold outAt
  rw [ixA_nat, ixA_nat, List.getElem?_append_left (by omega)]
/-- what an f-string says of a node -/
def msgE (i : Int) (s : Str) : Str := (((Str.empty ++ ("node " : Str)) ++ ((toString i : String) : Str)) ++ s)
def msgOk (i : Int) (s : Str) : Prop := i.natAbs.log2 < 1920 ∧ (Str.empty ++ ("node " : Str)).length ≤ 16777216 ∧ ((Str.empty ++ ("node " : Str)) ++ ((toString i : String) : Str)).length ≤ 16777216 ∧ (msgE i s).length ≤ 16777216
theorem str_app {a b : Str} : (a ++ b).length = a.length + b.length := by
  show (a.cps ++ b.cps).size = _
  rw [Array.size_append]
  rfl
theorem msg_ok {i : Nat} {s : Str} (h : i ≤ 1000) (hs : s.length ≤ 1000) : msgOk i s := by
  have h1 : ((toString (i : Int) : String) : Str).length ≤ 13 := PyData.shown_int_le (i := (i : Int)) (by omega)
  have h2 : (Str.empty ++ ("node " : Str)).length = 5 := by decide +kernel
  have h3 := int_log (i := (i : Int)) (by omega)
  refine ⟨by omega, by omega, ?_, ?_⟩
  · rw [str_app]; omega
  · unfold msgE
    rw [str_app, str_app]; omega
/-- the number of sides as a node's check has it -/
def sidesOf (opd : D) (sd : Nat) : Prop := (ixD opd (.int 0) = some (.str "source") ∧ sd = 0) ∨ ∃ w, ixD opd (.int 0) = some (.str w) ∧ w ≠ "source" ∧ f_sides_of [opd] = some (.int sd)
def inB (i : Nat) (j : Int) : Bool := decide (0 ≤ j) && decide (j < (i : Int))
theorem sp_inputs {xs : List D} {i : Nat} {opd : D} {is : List Int} {sd : Nat} (hx : ixA xs (i : Int) = some (.tuple [opd, .tuple (is.map PyData.int)])) (hs : sidesOf opd sd) (hl : is.length ≤ 1000) (hi : i ≤ 1000) :
    f_check_inputs [.tuple xs, .int i] = some (if is.length = sd ∧ (is.filter (inB i)).length = sd then .inl .none else .inr ⟨"InvalidPlan", msgE i ": inputs"⟩) := by
  obtain ⟨m1, m2, m3, m4⟩ := msg_ok (s := ": inputs") hi (by decide +kernel)
  unfold msgE at m4
  rw [← wo_eq]
  unfold f_check_inputs
  rw [wo_runX]
  show Wx g_check_inputs [some (.val (.tuple xs)), some (.val (.int i)), none, none, none, none, none] _ _
  unfold g_check_inputs
  generalize hB : (xSeq (xOk (sOwn 5 _)) _) = B
  have go : Wx B [some (.val (.tuple xs)), some (.val (.int i)), some (.val opd), some (.val (.tuple (is.map PyData.int))), some (.val (.int sd)), none, none] (endQ fun r => r = (if is.length = sd ∧ (is.filter (inB i)).length = sd then .inl .none else .inr ⟨"InvalidPlan", msgE i ": inputs"⟩)) (fun x _ => .inr x = (if is.length = sd ∧ (is.filter (inB i)).length = sd then (.inl .none : D ⊕ Xc) else .inr ⟨"InvalidPlan", msgE i ": inputs"⟩)) := by
    subst hB
    simp! [List.length_map]
    refine ⟨⟨by omega, rfl⟩, ?_⟩
    refine lc_filterA PyData.int PyData.int (inB i) _ (fun j hj => ?_) ?_
    · unfold inB
      by_cases h0 : 0 ≤ j
      · by_cases h1 : j < (i : Int)
        · simp! [h0, h1]
          all_goals (clear m1 m2 m3 m4; first | rfl | trivial)
        · simp! [h0, h1]
          all_goals (clear m1 m2 m3 m4; first | rfl | trivial)
      · simp! [h0]
        all_goals (clear m1 m2 m3 m4; first | rfl | trivial)
    · simp! [List.length_map, m1, m2, m3, m4]
      by_cases c1 : is.length = sd
      · rw [if_neg (by rw [decide_eq_true (by omega)]; simp)]
        by_cases c2 : (is.filter (inB i)).length = sd
        · rw [if_neg (by rw [decide_eq_true (by omega)]; simp), if_pos ⟨c1, c2⟩]
        · rw [if_pos (by rw [decide_eq_false (by omega)]; rfl), if_neg fun z => c2 z.2]
          rfl
      · rw [if_pos (by rw [decide_eq_false (by omega)]; rfl), if_neg fun z => c1 z.1]
        rfl
  rcases hs with ⟨e, rfl⟩ | ⟨w, e, hw, hsd⟩
  · simp! [hx, e]
    exact go
  · simp! [hx, e, hw, hsd]
    exact go
theorem sp_out_op {xs : List D} {i : Nat} {opd r : D} {is : List Int} {w : Str} {os : List Ou} (hx : ixA xs (i : Int) = some (.tuple [opd, .tuple (is.map PyData.int)])) (hw : ixD opd (.int 0) = some (.str w)) (hw2 : w ≠ "source") (hin : ∀ j ∈ is, 0 ≤ j ∧ j < os.length) (hl : is.length ≤ 1000) (hc : f_check_operator [opd, .list (is.map (outAt os))] = some (.inl r)) :
    f_output_of [.tuple xs, .int i] (.list (os.map sdD)) = some (.inl r, .list (os.map sdD)) := by
  rw [← wo_eq]
  unfold f_output_of
  rw [wo_runXO]
  show Wx g_output_of [some (.val (.tuple xs)), some (.val (.int i)), some (.own true (.list (os.map sdD))), none, none, none, none, none] _ _
  unfold g_output_of
  simp! [hx, hw, hw2, List.length_map]
  refine ⟨⟨by omega, rfl⟩, ?_⟩
  refine lc_mapA PyData.int (outAt os) _ (fun j hj => ?_) ?_
  · obtain ⟨r1, e1, e2, e3⟩ := out_at (hin j hj).1 (hin j hj).2
    simp! [e3]
    all_goals rfl
  · simp! [hc]
/-- what is said of a node whose operator is refused -/
def msgM (i : Int) (m : Str) : Str := msgE i ": " ++ m
theorem sp_out_bad {xs : List D} {i : Nat} {opd : D} {is : List Int} {w m : Str} {os : List Ou} (hx : ixA xs (i : Int) = some (.tuple [opd, .tuple (is.map PyData.int)])) (hw : ixD opd (.int 0) = some (.str w)) (hw2 : w ≠ "source") (hin : ∀ j ∈ is, 0 ≤ j ∧ j < os.length) (hl : is.length ≤ 1000) (hi : i ≤ 1000) (hm : m.length ≤ 1000)
    (hc : f_check_operator [opd, .list (is.map (outAt os))] = some (.inr ⟨"InvalidOperator", m⟩)) : f_output_of [.tuple xs, .int i] (.list (os.map sdD)) = some (.inr ⟨"InvalidPlan", msgM i m⟩, .list (os.map sdD)) := by
  obtain ⟨m1, m2, m3, m4⟩ := msg_ok (s := ": ") hi (by decide +kernel)
  have m5 : (msgM i m).length ≤ 16777216 := by
    have h1 : ((toString (i : Int) : String) : Str).length ≤ 13 := PyData.shown_int_le (i := (i : Int)) (by omega)
    have h2 : (Str.empty ++ ("node " : Str)).length = 5 := by decide +kernel
    have h3 : (": " : Str).length = 2 := by decide +kernel
    unfold msgM msgE
    rw [str_app, str_app, str_app]; omega
  have m6 : m.length ≤ 16777216 := by omega
  unfold msgM at m5
  unfold msgE at m4 m5
  rw [← wo_eq]
  unfold f_output_of
  rw [wo_runXO]
  show Wx g_output_of [some (.val (.tuple xs)), some (.val (.int i)), some (.own true (.list (os.map sdD))), none, none, none, none, none] _ _
  unfold g_output_of
  simp! [hx, hw, hw2, List.length_map]
  refine ⟨⟨by omega, rfl⟩, ?_⟩
  refine lc_mapA PyData.int (outAt os) _ (fun j hj => ?_) ?_
  · obtain ⟨r1, e1, e2, e3⟩ := out_at (hin j hj).1 (hin j hj).2
    simp! [e3]
    all_goals rfl
  · simp! [hc, m1, m2, m3, m4, m5, m6]
    exact ⟨⟨rfl, by decide⟩, rfl, rfl⟩
theorem src_ix {x : Str} {F : Fs} : ixD (srcD x F) (.int 0) = some (.str "source") ∧ ixD (srcD x F) (.int 1) = some (.str x) ∧ ixD (srcD x F) (.int 2) = some (tpF F) := ⟨rfl, rfl, rfl⟩
theorem sp_out_src0 {xs : List D} {x : Str} {F : Fs} {inp : D} {os : List Ou} (hx : ixA xs 0 = some (.tuple [srcD x F, inp])) : f_output_of [.tuple xs, .int 0] (.list (os.map sdD)) = some (.inl (sdD (F, false)), .list (os.map sdD)) := by
  obtain ⟨s0, s1, s2⟩ := src_ix (x := x) (F := F)
  rw [← wo_eq]
  unfold f_output_of
  rw [wo_runXO]
  show Wx g_output_of [some (.val (.tuple xs)), some (.val (.int 0)), some (.own true (.list (os.map sdD))), none, none, none, none, none] _ _
  unfold g_output_of
  have r0 : rngL 0 0 = [] := rfl
  have z : small62 0 = true := by decide
  simp! [hx, s0, s1, s2, r0, forx_nil, z]
  try rfl
theorem sp_out_src1 {xs : List D} {x y : Str} {F G : Fs} {inp inp2 : D} {os : List Ou} (hx : ixA xs 1 = some (.tuple [srcD x F, inp])) (hy : ixA xs 0 = some (.tuple [srcD y G, inp2])) (hne : y ≠ x) : f_output_of [.tuple xs, .int 1] (.list (os.map sdD)) = some (.inl (sdD (F, false)), .list (os.map sdD)) := by
  obtain ⟨s0, s1, s2⟩ := src_ix (x := x) (F := F)
  obtain ⟨t0, t1, t2⟩ := src_ix (x := y) (F := G)
  rw [← wo_eq]
  unfold f_output_of
  rw [wo_runXO]
  show Wx g_output_of [some (.val (.tuple xs)), some (.val (.int 1)), some (.own true (.list (os.map sdD))), none, none, none, none, none] _ _
  unfold g_output_of
  have r0 : rngL 0 1 = [.int 0] := rfl
  have z : small62 1 = true := by decide
  simp! [hx, hy, s0, s1, s2, t0, t1, t2, r0, forx_nil, forx_cons, turnx_nx, z, hne]
  try rfl
theorem rep_s : reprF [tpF sF] = some (.str (PyData.shown (tpF sF))) := by
  have h : reprOk (tpF sF) = true := by decide +kernel
  show (if reprOk (tpF sF) = true then _ else _) = _
  rw [if_pos h]
  rfl
theorem rep_r : reprF [tpF rF] = some (.str (PyData.shown (tpF rF))) := by
  have h : reprOk (tpF rF) = true := by decide +kernel
  show (if reprOk (tpF rF) = true then _ else _) = _
  rw [if_pos h]
  rfl
theorem rep_ne : ¬ PyData.shown (tpF sF) = PyData.shown (tpF rF) := by decide +kernel
theorem sp_out_srcB {xs : List D} {i : Nat} {inp inp2 : D} {os : List Ou} (h1 : 1 ≤ i) (hi : i ≤ 1000) (hx : ixA xs (i : Int) = some (.tuple [srcD "s" rF, inp])) (hy : ixA xs 0 = some (.tuple [srcD "s" sF, inp2])) : f_output_of [.tuple xs, .int i] (.list (os.map sdD)) = some (.inr ⟨"InvalidPlan", msgE i ": other fields"⟩, .list (os.map sdD)) := by
  obtain ⟨m1, m2, m3, m4⟩ := msg_ok (s := ": other fields") hi (by decide +kernel)
  unfold msgE at m4
  obtain ⟨s0, s1, s2⟩ := src_ix (x := "s") (F := rF)
  obtain ⟨t0, t1, t2⟩ := src_ix (x := "s") (F := sF)
  rw [← wo_eq]
  unfold f_output_of
  rw [wo_runXO]
  show Wx g_output_of [some (.val (.tuple xs)), some (.val (.int i)), some (.own true (.list (os.map sdD))), none, none, none, none, none] _ _
  unfold g_output_of
  obtain ⟨n, rfl⟩ : ∃ n, i = n + 1 := ⟨i - 1, by omega⟩
  have r0 : rngL 0 (((n + 1 : Nat) : Int)).toNat = .int 0 :: (List.range n).map fun i : Nat => PyData.int ((i + 1 : Nat) : Int) := by
    rw [Int.toNat_natCast, rng_map, List.range_succ_eq_map, List.map_cons, List.map_map]
    rfl
  have z : small62 ((n + 1 : Nat) : Int) = true := by
    unfold small62
    exact decide_eq_true (by omega)
  generalize ((n + 1 : Nat) : Int) = N at *
  simp! [hx, hy, s0, s1, s2, t0, t1, t2, r0, forx_cons, z, rep_s, rep_r, rep_ne, m1, m2, m3, m4]
  try rfl
/-- the check of all nodes, as far as the nodes are good -/
theorem fields_run {xs : List D} {os : List Ou} {m : Nat} {R : D ⊕ Xc} (h0 : 0 < xs.length) (h16 : xs.length ≤ 16) (hm : m ≤ xs.length) (hmo : m ≤ os.length)
    (good : ∀ i, i < m → f_check_inputs [.tuple xs, .int i] = some (.inl .none) ∧ ∃ r, os[i]? = some r ∧ f_output_of [.tuple xs, .int i] (.list ((os.take i).map sdD)) = some (.inl (sdD r), .list ((os.take i).map sdD)))
    (fin : (m = xs.length ∧ R = .inl (.list ((os.take m).map sdD))) ∨ (m < xs.length ∧ ∃ x, R = .inr x ∧ (f_check_inputs [.tuple xs, .int m] = some (.inr x) ∨ (f_check_inputs [.tuple xs, .int m] = some (.inl .none) ∧ f_output_of [.tuple xs, .int m] (.list ((os.take m).map sdD)) = some (.inr x, .list ((os.take m).map sdD)))))) : f_fields_of [.tuple xs] = some R := by
  rw [← wo_eq]
  unfold f_fields_of
  rw [wo_runX]
  show Wx g_fields_of [some (.val (.tuple xs)), none, none] _ _
  unfold g_fields_of
  have n0 : ¬ ((xs.length : Nat) : Int) = 0 := by omega
  have n16 : ¬ (16 : Int) < ((xs.length : Nat) : Int) := by omega
  have z : small62 ((xs.length : Nat) : Int) = true := by
    unfold small62
    exact decide_eq_true (by omega)
  generalize hB : (xSeq (xDrop (xCall f_check_inputs _)) _) = B
  simp! [n0, n16, z]
  rw [Int.toNat_natCast, rng_map]
  refine wx_forA (fun i : Nat => PyData.int i) (fun q ρ => ∃ o2 : Option Cell, canSet (some o2) = some () ∧ q.length ≤ m ∧ ρ = [some (.val (.tuple xs)), some (.own false (.list ((os.take q.length).map sdD))), o2]) ⟨none, rfl, Nat.zero_le _, rfl⟩ ?_ ?_
  · rintro q j r ρ e ⟨o2, h2, hq, rfl⟩
    obtain ⟨e1, e2⟩ := rng_split e
    subst hB
    rw [e1]
    by_cases hj : j < m
    · obtain ⟨g1, r1, g2, g3⟩ := good j hj
      simp! [h2, g1, g3, List.length_map, List.length_take]
      refine ⟨by omega, some (.val (.int j)), rfl, by rw [List.length_append, e1]; simp only [List.length_cons, List.length_nil]; omega, ?_⟩
      have hjo : j < os.length := by omega
      rw [List.length_append, e1, List.length_cons, List.length_nil, List.take_succ, List.map_append, g2]
      rfl
    · have ej : j = m := by omega
      subst ej
      rcases fin with ⟨f1, _⟩ | ⟨_, x, rfl, f | ⟨f1, f2⟩⟩
      · omega
      · simp! [h2, f]
      · simp! [h2, f1, f2]
  · rintro ρ ⟨o2, h2, hq, rfl⟩
    rw [List.length_range] at hq
    rcases fin with ⟨f1, rfl⟩ | ⟨f1, _⟩
    · rw [List.length_range, ← f1]
      simp! []
    · omega
end Lw
set_option maxHeartbeats 4000000
namespace Lw
open PySem Dn Dm DnSo
local macro_rules | `(tactic| simp! [$xs,*]) => `(tactic| simp (maxSteps := 4000000) only [backE, wipeE, wo_some, wo_none, wm_c, wm_var, wm_frz, wm_bin, wm_un, wm_tst, wm_tru, wm_truB, wm_chain, wm_and, wm_or, wm_not, wm_andV, wm_orV, wm_notV, wm_ifE, wm_nil, wm_cons, wm_app, wm_noP, wm_part, wm_sl, wm_pk, wm_io, wm_ix, wm_inB, wm_true, wm_seq, wm_rng1, wm_rng2,
    then_nx, then_ret, then_rof, then_brk, then_cnt, ws_next, ws_brk, ws_cnt, ws_seq, ws_if, ws_ret, ws_rof, ws_drop, ws_set, ws_own, ws_asg, wo_TN, wo_TNil, wo_TCons, wo_TTup, ws_ap, ws_setIx, ws_for, for_nil, turn_nx, turn_cnt, turn_brk, turn_ret, turn_rof, wm_lc, end_ret, end_nx, end_rof, end_io, ownOf_own, valOf_val, frz_val, frz_own, frz_ownD, ixO_l, ixO_d, cOwn_own, peek_val, peek_own, peek_ownD, by_val, by_own, canSet_none, canSet_val, canSet_own, lstOf_list,
    List.getElem?_cons_zero, List.getElem?_cons_succ, List.set_cons_zero, List.set_cons_succ, List.length_cons, List.length_nil, wo_ite, wo_bind, ↓reduceIte, and_true, true_and, and_self, Bool.false_eq_true, Bool.not_true, Bool.not_false, decide_eq_true_eq, decide_true, decide_false, oneInt_int, twoInts_int,
    add_ii, add_ll, add_tt, add_ss, sub_ii, mul_ii, mulS_ii, mod_ii, fdiv_ii, neg_i, le_ii, gt_ii, ge_ii, eqT_ii, eqT_ss, eqT_bb, eqT_nn, ltT_ii, ltT_ss, wo_eqD, wo_neD, wo_ltD, wo_inD, wo_ninD, is_n, isnt_n, is_bb, isnt_bb, isN, bOf_b, iOf_i, tru_b, tru_n, tru_i, tru_l, tru_t, seq_l, seq_t, tup_l, tup_t, lst_l, lst_t, len_l, len_t, int_i, int_b, abs_i, max_ii, min_ii, ix_li, ix_ti, cut_l, cut_t, flat_i, flat_b, flat_s, ix0, ix1, ix2, mkTup, mkLst,
    add2_ll, ws_par3, three_c, ws_grp, empty_own, lOwnD_own, wm_lcW, wm_getD, wm_ind, ix3, ix4, ix_m2, ix_m1, ix_p2, ix_p1, wm_newD, ws_setK, wm_get, wm_ixK, wm_sortN, ws_ext, dOwn_own, lOwn_own, lsD_list, step_nx, step_cnt, step_brk, step_ret, step_rof, wm_reve, rev_l, rev_t, wm_opBL, repr_l, sort_l, sum_l, wm_enum, enum_l, enum_t, enumL_nil, wm_dic, wm_kvn, wm_kvc, seq_s, mulT_si, len_s, ord_c, str_i, ty_d, k_lb, k_li, k_ls, k_tb, k_ti, k_ts, k_db, k_di, k_ds, k_lt, k_tl,
    isi_1, tyOk_n, tyOk_b, tyOk_i, tyOk_s, tyOk_l, tyOk_t, ty_n, ty_b, ty_i, ty_s, ty_l, ty_t, k_nb, k_bb, k_ib, k_sb, k_ni, k_bi, k_ii, k_si, k_ns, k_bs, k_is, k_ss, k_ll, k_tt,
    Int.reduceNeg, Int.reducePow, Int.reduceLT, Int.reduceLE, Int.reduceAdd, Int.reduceSub, Int.reduceMul, Int.reduceToNat, Nat.reduceAdd, Nat.reduceLeDiff, Nat.reduceEqDiff, Int.reduceEq, reduceCtorEq, ws_grpL, empty_ownL, wo_TLst, wg_P, wg_end, wg_then, theng_nx, wg_yield, wm_callG, wo_runG, List.nil_append, wx_okD, wx_okL, wx_okB, wx_okS, wx_cons, wx_call, wx_app, wx_bin, wx_tst, wx_not, wx_ite, thenx_nx, thenx_ret, thenx_rof, thenx_brk, thenx_cnt, wx_seq, wx_if, wx_ret, wx_drop, wx_set, wx_apd, ownL_own, wx_raise, strOf_s, wx_for, ws_noX, wx_tryA, wx_try, retq_ret, either_l, either_r, endq_nx, endq_ret, hL_hd, gL_hd, wo_runX, wx_own, wl_nil, wl_cons, wx_lc, wm_keys, wm_callIOF, wm_fmt, fmt_s, fmt_i, js_s, wm_js0, wm_js, wm_sortU, wm_fT, fT_val, fT_own, ws_newT, txtC_own, ws_newTD, ws_fill, fill_nil, retn_ret, retn_nx, wx_tryN, wx_tryR, rzq_str, h1_hd, mulL_ii, mulR_ti, wx_callXO, endoq_nx, endoq_ret, $xs,*])
structure Pl (ns : List Nd) (os : List Ou) : Prop where
  len : ns.length = os.length
  two : 2 ≤ ns.length
  n0 : ns[0]? = some (srcD "s" sF, [])
  n1 : ns[1]? = some (srcD "r" rF, [])
  o0 : os[0]? = some (sF, false)
  o1 : os[1]? = some (rF, false)
  fo : ∀ r ∈ os, FsOk r.1
  nd : ∀ (i : Nat) (n : Nd) (r : Ou), 2 ≤ i → ns[i]? = some n → os[i]? = some r → ∃ o, n.1 = opD o ∧ okO o ∧ n.2.length = sid o ∧ (∀ j ∈ n.2, 0 ≤ j ∧ j < (i : Int)) ∧ f_check_operator [opD o, .list (n.2.map (outAt os))] = some (.inl (sdD r))
theorem Pl.base : Pl [(srcD "s" sF, []), (srcD "r" rF, [])] [(sF, false), (rF, false)] where
  len := rfl
  two := Nat.le_refl 2
  n0 := rfl
  n1 := rfl
  o0 := rfl
  o1 := rfl
  fo := fun r hr => by
    simp only [List.mem_cons, List.not_mem_nil, or_false] at hr
    rcases hr with rfl | rfl
    · exact sF_ok
    · exact rF_ok
  nd := fun i n r hi h1 _ => by
    rw [List.getElem?_eq_none (by simp only [List.length_cons, List.length_nil]; omega)] at h1
    cases h1
theorem Pl.snoc {ns : List Nd} {os : List Ou} (h : Pl ns os) {o : Op} {r : Ou} {is : List Int} (ho : okO o) (hl : is.length = sid o) (hi : ∀ j ∈ is, 0 ≤ j ∧ j < (ns.length : Int)) (hc : f_check_operator [opD o, .list (is.map (outAt os))] = some (.inl (sdD r))) (hf : FsOk r.1) : Pl (ns ++ [(opD o, is)]) (os ++ [r]) where
  len := by rw [List.length_append, List.length_append, h.len]; rfl
  two := by rw [List.length_append]; have := h.two; omega
  n0 := by rw [List.getElem?_append_left (by have := h.two; omega)]; exact h.n0
  n1 := by rw [List.getElem?_append_left (by have := h.two; omega)]; exact h.n1
  o0 := by rw [List.getElem?_append_left (by have := h.two; have := h.len; omega)]; exact h.o0
  o1 := by rw [List.getElem?_append_left (by have := h.two; have := h.len; omega)]; exact h.o1
  fo := fun q hq => by
    rcases List.mem_append.mp hq with hq | hq
    · exact h.fo q hq
    · rw [List.mem_singleton.mp hq]
      exact hf
  nd := fun i n q hi2 h1 h2 => by
    have hln := h.len
    have same : ∀ (l : List Int), (∀ j ∈ l, 0 ≤ j ∧ j < (os.length : Int)) → l.map (outAt (os ++ [r])) = l.map (outAt os) := fun l hl => List.map_congr_left fun j hj => out_snoc (hl j hj).1 (hl j hj).2
    by_cases c : i < ns.length
    · rw [List.getElem?_append_left c] at h1
      rw [List.getElem?_append_left (by omega)] at h2
      obtain ⟨o', a1, a2, a3, a4, a5⟩ := h.nd i n q hi2 h1 h2
      exact ⟨o', a1, a2, a3, a4, by rw [same _ fun j hj => ⟨(a4 j hj).1, by have := (a4 j hj).2; omega⟩]; exact a5⟩
    · rw [List.getElem?_append_right (by omega)] at h1
      rw [List.getElem?_append_right (by omega)] at h2
      by_cases e : i = ns.length
      · rw [e, Nat.sub_self] at h1
        rw [e, hln, Nat.sub_self] at h2
        cases h1
        cases h2
        exact ⟨o, rfl, ho, hl, fun j hj => by rw [e]; exact hi j hj, by rw [same _ fun j hj => by rw [← hln]; exact hi j hj]; exact hc⟩
      · rw [List.getElem?_eq_none (by simp only [List.length_cons, List.length_nil]; omega)] at h1
        cases h1
theorem ix_sd (r : Ou) : ixD (sdD r) (.int 0) = some (tpF r.1) := rfl
/-- what stands at a place that is drawn -/
theorem at_ok {ns : List Nd} {os : List Ou} (h : Pl ns os) {j : Int} (h0 : 0 ≤ j) (h1 : j < (ns.length : Int)) : ∃ r : Ou, FsOk r.1 ∧ outAt os j = sdD r ∧ ixA (os.map sdD) j = some (sdD r) := by
  obtain ⟨r, e1, e2, e3⟩ := out_at (os := os) h0 (by rw [← h.len]; exact h1)
  exact ⟨r, h.fo r (List.mem_of_getElem? e1), e2, by rw [e3, e2]⟩
theorem sid_two {o : Op} (h : two o = true) : sid o = 2 := if_pos h
theorem sid_one {o : Op} (h : two o = false) : sid o = 1 := if_neg (by rw [h]; simp)
theorem wo_plan {rows : List Int} {m : Int} {Q : D → Prop} (hr : 0 < rows.length) (h0 : 0 ≤ m) (h8 : m < 8) (q : ∀ ns os, Pl ns os → ns.length ≤ 9 → Q (.tuple (ns.map ndD))) : Wo (f__law_drawn_plan [.list (rows.map PyData.int), .int 2, .int m]) Q := by
  unfold f__law_drawn_plan
  rw [wo_runV]
  show Ws g__law_drawn_plan [some (.val (.list (rows.map PyData.int))), some (.val (.int 2)), some (.val (.int m)), none, none, none, none, none, none, none, none, none, none] _
  unfold g__law_drawn_plan
  generalize hB : (sSeq (sSet 6 (gBin ixD (gVar 0) _)) _) = B
  obtain ⟨c, rfl⟩ : ∃ c : Nat, m = c := ⟨m.toNat, by omega⟩
  have hs : small62 (c : Int) = true := by
    unfold small62
    exact decide_eq_true (by omega)
  simp! [sp_sf, sp_rf, hs]
  rw [Int.toNat_natCast, rng_map]
  refine ws_forA (fun i : Nat => PyData.int i) (fun p ρ => ∃ (ns : List Nd) (os : List Ou) (o5 o6 o7 o8 o9 o10 o11 : Option Cell), (canSet (some o5) = some () ∧ canSet (some o6) = some () ∧ canSet (some o7) = some () ∧ canSet (some o8) = some () ∧ canSet (some o9) = some () ∧ canSet (some o10) = some () ∧ canSet (some o11) = some ()) ∧ Pl ns os ∧ ns.length ≤ 2 + p.length ∧ ρ = [some (.val (.list (rows.map PyData.int))), some (.val (.int 2)), some (.val (.int c)), some (.own false (.list (ns.map ndD))), some (.own false (.list (os.map sdD))), o5, o6, o7, o8, o9, o10, o11, none]) ⟨[(srcD "s" sF, []), (srcD "r" rF, [])], [(sF, false), (rF, false)], none, none, none, none, none, none, none, ⟨rfl, rfl, rfl, rfl, rfl, rfl, rfl⟩, Pl.base, Nat.le_refl 2, rfl⟩ ?_ ?_
  · rintro p j r ρ e ⟨ns, os, o5, o6, o7, o8, o9, o10, o11, ⟨h5, h6, h7, h8, h9, h10, h11⟩, pl, hl, rfl⟩
    obtain ⟨e1, e2⟩ := rng_split e
    have two2 := pl.two
    have hN : (0 : Int) < ((ns.length : Nat) : Int) := by omega
    have hR : (0 : Int) < ((rows.length : Nat) : Int) := by omega
    subst hB
    simp! [h5, h6, h7, h8, h9, h10, h11, List.length_map, hN, hR]
    refine wo_ix (Int.emod_nonneg _ (by omega)) (by rw [List.length_map]; exact Int.emod_lt_of_pos _ hR) fun d hd => ?_
    obtain ⟨v, _, rfl⟩ := List.mem_map.mp hd
    obtain ⟨a, ha, ha2⟩ := modN (v / 5) (show (0 : Int) < 2 by decide)
    obtain ⟨b, hb, hb2⟩ := modN (v / 10) hN
    obtain ⟨tw, ht, ht2⟩ := modN (v / 30) hN
    have hab : 0 ≤ (a : Int) * (b : Int) ∧ (a : Int) * (b : Int) ≤ (b : Int) := by
      have : a = 0 ∨ a = 1 := by omega
      rcases this with rfl | rfl
      · simp
      · simp
    have hlog : (a : Int).natAbs.log2 + (b : Int).natAbs.log2 < 1000000 := by
      have h1 := int_log (i := (a : Int)) (by omega)
      have h2 := int_log (i := (b : Int)) (by omega)
      omega
    obtain ⟨one, hone, one0, one1⟩ : ∃ one : Int, ((ns.length : Nat) : Int) - 1 - (a : Int) * (b : Int) = one ∧ 0 ≤ one ∧ one < (ns.length : Int) := ⟨_, rfl, by omega, by omega⟩
    obtain ⟨r1, f1, g1, k1⟩ := at_ok pl one0 one1
    obtain ⟨r2, f2, g2, k2⟩ := at_ok pl (j := (tw : Int)) (by omega) ht2
    simp! [h5, h6, h7, h8, h9, h10, h11, List.length_map, hN, ha, hb, ht, hlog, hone, k1, k2, ix_sd]
    refine wo_operator f1 f2 fun o ho => ?_
    cases t2 : two o with
    | false =>
      have es := sid_one t2
      have sps := sp_sides o
      rw [es] at sps
      have one' : ((1 : Nat) : Int) = 1 := rfl
      rw [one'] at sps
      simp! [h5, h6, h7, h8, h9, h10, h11, sps]
      refine ⟨rfl, ?_⟩
      refine lc_mapA PyData.int (outAt os) [one] (fun x hx => ?_) ?_
      · rw [List.mem_singleton.mp hx]
        simp! [k1, g1]
        all_goals rfl
      · have el : [one].map (outAt os) = (sds o r1.1 r2.1 r1.2 r2.2).map sdD := by
          unfold sds
          rw [t2]
          simp [g1, g2]
        have hcc := chk_cases (o := o) (F := r1.1) (G := r2.1) (b0 := r1.2) (b1 := r2.2) ho f1 f2
        rw [← el] at hcc
        rcases hcc with ⟨r0, fr, hc⟩ | ⟨mm, hc⟩
        · have ed : sdD r0 = .tuple [tpF r0.1, kD r0.2] := rfl
          rw [ed] at hc
          simp! [backE, hc, h5, h6, h7, h8, h9, h10, h11, List.length_map, Bool.not_false]
          have pls := pl.snoc (o := o) (r := r0) (is := [one]) ho (by rw [es]; rfl) (fun x hx => by
            rw [List.mem_singleton.mp hx]
            exact ⟨one0, one1⟩) (by rw [ed]; exact hc) fr
          have hlen := pl.len
          refine ⟨by omega, by omega, ns ++ [(opD o, [one])], os ++ [r0], _, _, _, _, _, _, _, ⟨?_, ?_, ?_, ?_, ?_, ?_, ?_⟩, pls, by simp; omega, by rw [List.map_append, List.map_append]; rfl⟩ <;> rfl
        · simp! [backE, hc, h5, h6, h7, h8, h9, h10, h11, List.length_map]
          refine ⟨ns, os, _, _, _, _, _, _, _, ⟨?_, ?_, ?_, ?_, ?_, ?_, ?_⟩, pl, by simp; omega, rfl⟩ <;> rfl
    | true =>
      have es := sid_two t2
      have sps := sp_sides o
      rw [es] at sps
      have two' : ((2 : Nat) : Int) = 2 := rfl
      rw [two'] at sps
      simp! [h5, h6, h7, h8, h9, h10, h11, sps]
      refine ⟨rfl, ?_⟩
      refine lc_mapA PyData.int (outAt os) [one, (tw : Int)] (fun x hx => ?_) ?_
      · simp only [List.mem_cons, List.not_mem_nil, or_false] at hx
        rcases hx with rfl | rfl
        · simp! [k1, g1]
          all_goals rfl
        · simp! [k2, g2]
          all_goals rfl
      · have el : [one, (tw : Int)].map (outAt os) = (sds o r1.1 r2.1 r1.2 r2.2).map sdD := by
          unfold sds
          rw [t2]
          simp [g1, g2]
        have hcc := chk_cases (o := o) (F := r1.1) (G := r2.1) (b0 := r1.2) (b1 := r2.2) ho f1 f2
        rw [← el] at hcc
        rcases hcc with ⟨r0, fr, hc⟩ | ⟨mm, hc⟩
        · have ed : sdD r0 = .tuple [tpF r0.1, kD r0.2] := rfl
          rw [ed] at hc
          simp! [backE, hc, h5, h6, h7, h8, h9, h10, h11, List.length_map, Bool.not_false]
          have pls := pl.snoc (o := o) (r := r0) (is := [one, (tw : Int)]) ho (by rw [es]; rfl) (fun x hx => by
            simp only [List.mem_cons, List.not_mem_nil, or_false] at hx
            rcases hx with rfl | rfl
            · exact ⟨one0, one1⟩
            · exact ⟨by omega, ht2⟩) (by rw [ed]; exact hc) fr
          have hlen := pl.len
          refine ⟨by omega, by omega, ns ++ [(opD o, [one, (tw : Int)])], os ++ [r0], _, _, _, _, _, _, _, ⟨?_, ?_, ?_, ?_, ?_, ?_, ?_⟩, pls, by simp; omega, by rw [List.map_append, List.map_append]; rfl⟩ <;> rfl
        · simp! [backE, hc, h5, h6, h7, h8, h9, h10, h11, List.length_map]
          refine ⟨ns, os, _, _, _, _, _, _, _, ⟨?_, ?_, ?_, ?_, ?_, ?_, ?_⟩, pl, by simp; omega, rfl⟩ <;> rfl
  · rintro ρ ⟨ns, os, o5, o6, o7, o8, o9, o10, o11, ⟨h5, h6, h7, h8, h9, h10, h11⟩, pl, hl, rfl⟩
    simp! []
    rw [List.length_range] at hl
    exact q ns os pl (by omega)
end Lw
set_option maxHeartbeats 4000000
namespace Lw
open PySem Dn Dm DnSo
local macro_rules | `(tactic| simp! [$xs,*]) => `(tactic| simp (maxSteps := 4000000) only [backE, wipeE, wo_some, wo_none, wm_c, wm_var, wm_frz, wm_bin, wm_un, wm_tst, wm_tru, wm_truB, wm_chain, wm_and, wm_or, wm_not, wm_andV, wm_orV, wm_notV, wm_ifE, wm_nil, wm_cons, wm_app, wm_noP, wm_part, wm_sl, wm_pk, wm_io, wm_ix, wm_inB, wm_true, wm_seq, wm_rng1, wm_rng2,
    then_nx, then_ret, then_rof, then_brk, then_cnt, ws_next, ws_brk, ws_cnt, ws_seq, ws_if, ws_ret, ws_rof, ws_drop, ws_set, ws_own, ws_asg, wo_TN, wo_TNil, wo_TCons, wo_TTup, ws_ap, ws_setIx, ws_for, for_nil, turn_nx, turn_cnt, turn_brk, turn_ret, turn_rof, wm_lc, end_ret, end_nx, end_rof, end_io, ownOf_own, valOf_val, frz_val, frz_own, frz_ownD, ixO_l, ixO_d, cOwn_own, peek_val, peek_own, peek_ownD, by_val, by_own, canSet_none, canSet_val, canSet_own, lstOf_list,
    List.getElem?_cons_zero, List.getElem?_cons_succ, List.set_cons_zero, List.set_cons_succ, List.length_cons, List.length_nil, wo_ite, wo_bind, ↓reduceIte, and_true, true_and, and_self, Bool.false_eq_true, Bool.not_true, Bool.not_false, decide_eq_true_eq, decide_true, decide_false, oneInt_int, twoInts_int,
    add_ii, add_ll, add_tt, add_ss, sub_ii, mul_ii, mulS_ii, mod_ii, fdiv_ii, neg_i, le_ii, gt_ii, ge_ii, eqT_ii, eqT_ss, eqT_bb, eqT_nn, ltT_ii, ltT_ss, wo_eqD, wo_neD, wo_ltD, wo_inD, wo_ninD, is_n, isnt_n, is_bb, isnt_bb, isN, bOf_b, iOf_i, tru_b, tru_n, tru_i, tru_l, tru_t, seq_l, seq_t, tup_l, tup_t, lst_l, lst_t, len_l, len_t, int_i, int_b, abs_i, max_ii, min_ii, ix_li, ix_ti, cut_l, cut_t, flat_i, flat_b, flat_s, ix0, ix1, ix2, mkTup, mkLst,
    add2_ll, ws_par3, three_c, ws_grp, empty_own, lOwnD_own, wm_lcW, wm_getD, wm_ind, ix3, ix4, ix_m2, ix_m1, ix_p2, ix_p1, wm_newD, ws_setK, wm_get, wm_ixK, wm_sortN, ws_ext, dOwn_own, lOwn_own, lsD_list, step_nx, step_cnt, step_brk, step_ret, step_rof, wm_reve, rev_l, rev_t, wm_opBL, repr_l, sort_l, sum_l, wm_enum, enum_l, enum_t, enumL_nil, wm_dic, wm_kvn, wm_kvc, seq_s, mulT_si, len_s, ord_c, str_i, ty_d, k_lb, k_li, k_ls, k_tb, k_ti, k_ts, k_db, k_di, k_ds, k_lt, k_tl,
    isi_1, tyOk_n, tyOk_b, tyOk_i, tyOk_s, tyOk_l, tyOk_t, ty_n, ty_b, ty_i, ty_s, ty_l, ty_t, k_nb, k_bb, k_ib, k_sb, k_ni, k_bi, k_ii, k_si, k_ns, k_bs, k_is, k_ss, k_ll, k_tt,
    Int.reduceNeg, Int.reducePow, Int.reduceLT, Int.reduceLE, Int.reduceAdd, Int.reduceSub, Int.reduceMul, Int.reduceToNat, Nat.reduceAdd, Nat.reduceLeDiff, Nat.reduceEqDiff, Int.reduceEq, reduceCtorEq, ws_grpL, empty_ownL, wo_TLst, wg_P, wg_end, wg_then, theng_nx, wg_yield, wm_callG, wo_runG, List.nil_append, wx_okD, wx_okL, wx_okB, wx_okS, wx_cons, wx_call, wx_app, wx_bin, wx_tst, wx_not, wx_ite, thenx_nx, thenx_ret, thenx_rof, thenx_brk, thenx_cnt, wx_seq, wx_if, wx_ret, wx_drop, wx_set, wx_apd, ownL_own, wx_raise, strOf_s, wx_for, ws_noX, wx_tryA, wx_try, retq_ret, either_l, either_r, endq_nx, endq_ret, hL_hd, gL_hd, wo_runX, wx_own, wl_nil, wl_cons, wx_lc, wm_keys, wm_callIOF, wm_fmt, fmt_s, fmt_i, js_s, wm_js0, wm_js, wm_sortU, wm_fT, fT_val, fT_own, ws_newT, txtC_own, ws_newTD, ws_fill, fill_nil, retn_ret, retn_nx, wx_tryN, wx_tryR, rzq_str, h1_hd, mulL_ii, mulR_ti, wx_callXO, endoq_nx, endoq_ret, $xs,*])
theorem src_sides {x : Str} {F : Fs} : sidesOf (srcD x F) 0 := .inl ⟨rfl, rfl⟩
theorem op_sides {o : Op} : sidesOf (opD o) (sid o) := by
  obtain ⟨w, h1, h2⟩ := op_w o
  exact .inr ⟨w, h1, h2, sp_sides o⟩
theorem filt_all {is : List Int} {i : Nat} (h : ∀ j ∈ is, 0 ≤ j ∧ j < (i : Int)) : is.filter (inB i) = is := List.filter_eq_self.mpr fun j hj => by
  unfold inB
  rw [decide_eq_true (h j hj).1, decide_eq_true (h j hj).2]
  rfl
theorem ne_sr : ¬ (("s" : Str) = "r") := fun z => absurd (ofString_inj z) (by decide)
theorem pl_good {ns : List Nd} {os : List Ou} (pl : Pl ns os) (h16 : ns.length ≤ 16) {xs : List D} {i : Nat} (hi : i < ns.length) (hx : ∀ j, j ≤ i → xs[j]? = (ns[j]?).map ndD) :
    f_check_inputs [.tuple xs, .int i] = some (.inl .none) ∧ ∃ r, os[i]? = some r ∧ f_output_of [.tuple xs, .int i] (.list ((os.take i).map sdD)) = some (.inl (sdD r), .list ((os.take i).map sdD)) := by
  have src : ∀ x F, ns[i]? = some (srcD x F, []) → f_check_inputs [.tuple xs, .int i] = some (.inl .none) := fun x F h => by
    have hxi : ixA xs (i : Int) = some (.tuple [srcD x F, .tuple (([] : List Int).map PyData.int)]) := by rw [ixA_nat, hx i (Nat.le_refl _), h]; rfl
    rw [sp_inputs hxi src_sides (by simp) (by omega), if_pos ⟨rfl, rfl⟩]
  have x0 : ixA xs 0 = some (.tuple [srcD "s" sF, .tuple []]) := by
    have := hx 0 (Nat.zero_le _)
    rw [pl.n0] at this
    exact (ixA_nat xs 0).trans this
  by_cases c0 : i = 0
  · subst c0
    exact ⟨src _ _ pl.n0, _, pl.o0, sp_out_src0 x0⟩
  by_cases c1 : i = 1
  · subst c1
    have x1 : ixA xs 1 = some (.tuple [srcD "r" rF, .tuple []]) := by
      have := hx 1 (Nat.le_refl _)
      rw [pl.n1] at this
      exact (ixA_nat xs 1).trans this
    exact ⟨src _ _ pl.n1, _, pl.o1, sp_out_src1 x1 x0 ne_sr⟩
  have hio : i < os.length := by rw [← pl.len]; exact hi
  obtain ⟨o, e1, ho, hl, hin, hc⟩ := pl.nd i ns[i] os[i] (by omega) (List.getElem?_eq_getElem hi) (List.getElem?_eq_getElem hio)
  obtain ⟨w, w1, w2⟩ := op_w o
  generalize hn : ns[i] = n at e1 hl hin hc
  obtain ⟨opd, is⟩ := n
  have e1 : opd = opD o := e1
  subst e1
  have hl : is.length = sid o := hl
  have hin : ∀ j ∈ is, 0 ≤ j ∧ j < (i : Int) := hin
  have hs2 : sid o ≤ 2 := by unfold sid; split <;> omega
  have hxi : ixA xs (i : Int) = some (.tuple [opD o, .tuple (is.map PyData.int)]) := by
    rw [ixA_nat, hx i (Nat.le_refl _), List.getElem?_eq_getElem hi, hn]
    rfl
  refine ⟨?_, os[i], List.getElem?_eq_getElem hio, ?_⟩
  · rw [sp_inputs hxi op_sides (by omega) (by omega), if_pos ⟨hl, by rw [filt_all hin]; exact hl⟩]
  · refine sp_out_op hxi w1 w2 (fun j hj => ⟨(hin j hj).1, by rw [List.length_take]; have := (hin j hj).2; omega⟩) (by omega) ?_
    rw [show is.map (outAt (os.take i)) = is.map (outAt os) from List.map_congr_left fun j hj => out_take (hin j hj).1 (hin j hj).2]
    exact hc
theorem pl_fields {ns : List Nd} {os : List Ou} (pl : Pl ns os) (h16 : ns.length ≤ 16) : f_fields_of [.tuple (ns.map ndD)] = some (.inl (.list (os.map sdD))) := by
  refine fields_run (os := os) (m := ns.length) (by rw [List.length_map]; have := pl.two; omega) (by rw [List.length_map]; exact h16) (by rw [List.length_map]; exact Nat.le_refl _) (by rw [pl.len]; exact Nat.le_refl _) (fun i hi => pl_good pl h16 hi fun j _ => List.getElem?_map ..) (.inl ⟨by rw [List.length_map], ?_⟩)
  rw [pl.len, List.take_length]
theorem pl_bad {ns : List Nd} {os : List Ou} (pl : Pl ns os) (h16 : ns.length ≤ 16) {xs : List D} {m : Nat} {x : Xc} (hxl : xs.length ≤ 16) (hm : m < xs.length) (hmn : m ≤ ns.length) (hx : ∀ j, j < m → xs[j]? = (ns[j]?).map ndD)
    (h : f_check_inputs [.tuple xs, .int m] = some (.inr x) ∨ (f_check_inputs [.tuple xs, .int m] = some (.inl .none) ∧ f_output_of [.tuple xs, .int m] (.list ((os.take m).map sdD)) = some (.inr x, .list ((os.take m).map sdD)))) : f_fields_of [.tuple xs] = some (.inr x) :=
  fields_run (os := os) (m := m) (by omega) hxl (by omega) (by rw [← pl.len]; exact hmn) (fun i hi => pl_good pl h16 (by omega) fun j hj => hx j (by omega)) (.inr ⟨hm, x, rfl, h⟩)
theorem chkp_l {p d : D} (h : f_fields_of [p] = some (.inl d)) : f_check_plan [p] = some (.inl .none) := by
  rw [← wo_eq]
  unfold f_check_plan
  rw [wo_runX]
  show Wx g_check_plan [some (.val p)] _ _
  unfold g_check_plan
  simp! [h]
theorem chkp_r {p : D} {x : Xc} (h : f_fields_of [p] = some (.inr x)) : f_check_plan [p] = some (.inr x) := by
  rw [← wo_eq]
  unfold f_check_plan
  rw [wo_runX]
  show Wx g_check_plan [some (.val p)] _ _
  unfold g_check_plan
  simp! [h]
theorem told_l {p d : D} (h : f_fields_of [p] = some (.inl d)) : f__law_told [p, .bool true] = some (.tuple [.str "fine", .none]) := by
  have h2 := chkp_l h
  rw [← wo_eq]
  unfold f__law_told
  rw [wo_runV]
  show Ws g__law_told [some (.val p), some (.val (.bool true)), none] _
  unfold g__law_told
  simp! [h, h2]
theorem told_r {p : D} {m : Str} {b : Bool} (h : f_fields_of [p] = some (.inr ⟨"InvalidPlan", m⟩)) : f__law_told [p, .bool b] = some (.tuple [.str "wrong", .str m, .bool true]) := by
  have h2 := chkp_r h
  rw [← wo_eq]
  unfold f__law_told
  rw [wo_runV]
  show Ws g__law_told [some (.val p), some (.val (.bool b)), none] _
  unfold g__law_told
  cases b <;> simp! [h, h2] <;> exact ⟨rfl, by decide⟩
theorem src_of {x : Str} {F : Fs} {is : List Int} : f_is_source [ndD (srcD x F, is)] = some (.bool true) := by
  rw [← wo_eq]
  unfold f_is_source
  rw [wo_runV]
  show Ws g_is_source [some (.val (ndD (srcD x F, is)))] _
  unfold g_is_source
  have h0 : ixD (ndD (srcD x F, is)) (.int 0) = some (srcD x F) := rfl
  have h1 : ixD (srcD x F) (.int 0) = some (.str "source") := rfl
  simp! [h0, h1]
theorem op_of {o : Op} {is : List Int} : f_is_source [ndD (opD o, is)] = some (.bool false) := by
  obtain ⟨w, w1, w2⟩ := op_w o
  rw [← wo_eq]
  unfold f_is_source
  rw [wo_runV]
  show Ws g_is_source [some (.val (ndD (opD o, is)))] _
  unfold g_is_source
  have h0 : ixD (ndD (opD o, is)) (.int 0) = some (opD o) := rfl
  simp! [h0, w1, w2]
theorem in_s0 : inT (.str "s") (.list []) = some false := by decide +kernel
theorem in_r1 : inT (.str "r") (.list [.str "s"]) = some false := by decide +kernel
theorem pl_cut {ns : List Nd} {os : List Ou} (pl : Pl ns os) : ∃ rest, ns = (srcD "s" sF, []) :: (srcD "r" rF, []) :: rest ∧ ∀ n ∈ rest, ∃ o is, n = (opD o, is) := by
  have h0 := pl.n0
  have h1 := pl.n1
  have ln := pl.len
  match ns, pl with
  | [], _ => cases h0
  | [_], _ => cases h1
  | a :: b :: rest, pl =>
    cases h0
    cases h1
    refine ⟨rest, rfl, fun n hn => ?_⟩
    obtain ⟨i, hi, rfl⟩ := List.getElem_of_mem hn
    have hi2 : i + 2 < os.length := by rw [← ln]; simp only [List.length_cons]; omega
    obtain ⟨o, e, _⟩ := pl.nd (i + 2) rest[i] os[i + 2] (by omega) (by rw [List.getElem?_cons_succ, List.getElem?_cons_succ]; exact List.getElem?_eq_getElem hi) (List.getElem?_eq_getElem hi2)
    exact ⟨o, rest[i].2, by rw [← e]⟩
theorem pl_sources {ns : List Nd} {os : List Ou} (pl : Pl ns os) : f_sources_of [.tuple (ns.map ndD)] = some (.list [.str "s", .str "r"]) := by
  obtain ⟨rest, rfl, hr⟩ := pl_cut pl
  rw [← wo_eq]
  unfold f_sources_of
  rw [wo_runV]
  show Ws g_sources_of [some (.val (.tuple (((srcD "s" sF, []) :: (srcD "r" rF, []) :: rest).map ndD))), none, none] _
  unfold g_sources_of
  generalize hR : PyData.tuple (((srcD "s" sF, []) :: (srcD "r" rF, []) :: rest : List Nd).map ndD) = R
  have hq : seqOf R = some (ndD (srcD "s" sF, []) :: ndD (srcD "r" rF, []) :: rest.map ndD) := by rw [← hR]; rfl
  have s0 := src_of (x := "s") (F := sF) (is := [])
  have s1 := src_of (x := "r") (F := rF) (is := [])
  have i0 : ixD (ndD (srcD "s" sF, [])) (.int 0) = some (srcD "s" sF) := rfl
  have i1 : ixD (ndD (srcD "r" rF, [])) (.int 0) = some (srcD "r" rF) := rfl
  have j0 : ixD (srcD "s" sF) (.int 1) = some (.str "s") := rfl
  have j1 : ixD (srcD "r" rF) (.int 1) = some (.str "r") := rfl
  simp! [hq, for_cons, s0, s1, i0, i1, j0, j1, in_s0, in_r1]
  refine ⟨by omega, by omega, ?_⟩
  rw [show ([PyData.str "s"] : List D) ++ [PyData.str "r"] = [.str "s", .str "r"] from rfl]
  refine ws_forA ndD (fun p ρ => ∃ o2 : Option Cell, canSet (some o2) = some () ∧ ρ = [some (.val R), some (.own false (.list [.str "s", .str "r"])), o2]) ⟨some (.val (ndD (srcD "r" rF, []))), rfl, rfl⟩ ?_ ?_
  · rintro p n r ρ e ⟨o2, h2, rfl⟩
    obtain ⟨o, is, rfl⟩ := hr n (by rw [e]; simp)
    simp! [h2, op_of]
    exact ⟨some (.val (ndD (opD o, is))), rfl, rfl⟩
  · rintro ρ ⟨o2, h2, rfl⟩
    simp! []
end Lw
set_option maxHeartbeats 4000000
namespace Lw
open PySem Dn Dm DnSo
local macro_rules | `(tactic| simp! [$xs,*]) => `(tactic| simp (maxSteps := 4000000) only [backE, wipeE, wo_some, wo_none, wm_c, wm_var, wm_frz, wm_bin, wm_un, wm_tst, wm_tru, wm_truB, wm_chain, wm_and, wm_or, wm_not, wm_andV, wm_orV, wm_notV, wm_ifE, wm_nil, wm_cons, wm_app, wm_noP, wm_part, wm_sl, wm_pk, wm_io, wm_ix, wm_inB, wm_true, wm_seq, wm_rng1, wm_rng2,
    then_nx, then_ret, then_rof, then_brk, then_cnt, ws_next, ws_brk, ws_cnt, ws_seq, ws_if, ws_ret, ws_rof, ws_drop, ws_set, ws_own, ws_asg, wo_TN, wo_TNil, wo_TCons, wo_TTup, ws_ap, ws_setIx, ws_for, for_nil, turn_nx, turn_cnt, turn_brk, turn_ret, turn_rof, wm_lc, end_ret, end_nx, end_rof, end_io, ownOf_own, valOf_val, frz_val, frz_own, frz_ownD, ixO_l, ixO_d, cOwn_own, peek_val, peek_own, peek_ownD, by_val, by_own, canSet_none, canSet_val, canSet_own, lstOf_list,
    List.getElem?_cons_zero, List.getElem?_cons_succ, List.set_cons_zero, List.set_cons_succ, List.length_cons, List.length_nil, wo_ite, wo_bind, ↓reduceIte, and_true, true_and, and_self, Bool.false_eq_true, Bool.not_true, Bool.not_false, decide_eq_true_eq, decide_true, decide_false, oneInt_int, twoInts_int,
    add_ii, add_ll, add_tt, add_ss, sub_ii, mul_ii, mulS_ii, mod_ii, fdiv_ii, neg_i, le_ii, gt_ii, ge_ii, eqT_ii, eqT_ss, eqT_bb, eqT_nn, ltT_ii, ltT_ss, wo_eqD, wo_neD, wo_ltD, wo_inD, wo_ninD, is_n, isnt_n, is_bb, isnt_bb, isN, bOf_b, iOf_i, tru_b, tru_n, tru_i, tru_l, tru_t, seq_l, seq_t, tup_l, tup_t, lst_l, lst_t, len_l, len_t, int_i, int_b, abs_i, max_ii, min_ii, ix_li, ix_ti, cut_l, cut_t, flat_i, flat_b, flat_s, ix0, ix1, ix2, mkTup, mkLst,
    add2_ll, ws_par3, three_c, ws_grp, empty_own, lOwnD_own, wm_lcW, wm_getD, wm_ind, ix3, ix4, ix_m2, ix_m1, ix_p2, ix_p1, wm_newD, ws_setK, wm_get, wm_ixK, wm_sortN, ws_ext, dOwn_own, lOwn_own, lsD_list, step_nx, step_cnt, step_brk, step_ret, step_rof, wm_reve, rev_l, rev_t, wm_opBL, repr_l, sort_l, sum_l, wm_enum, enum_l, enum_t, enumL_nil, wm_dic, wm_kvn, wm_kvc, seq_s, mulT_si, len_s, ord_c, str_i, ty_d, k_lb, k_li, k_ls, k_tb, k_ti, k_ts, k_db, k_di, k_ds, k_lt, k_tl,
    isi_1, tyOk_n, tyOk_b, tyOk_i, tyOk_s, tyOk_l, tyOk_t, ty_n, ty_b, ty_i, ty_s, ty_l, ty_t, k_nb, k_bb, k_ib, k_sb, k_ni, k_bi, k_ii, k_si, k_ns, k_bs, k_is, k_ss, k_ll, k_tt,
    Int.reduceNeg, Int.reducePow, Int.reduceLT, Int.reduceLE, Int.reduceAdd, Int.reduceSub, Int.reduceMul, Int.reduceToNat, Nat.reduceAdd, Nat.reduceLeDiff, Nat.reduceEqDiff, Int.reduceEq, reduceCtorEq, ws_grpL, empty_ownL, wo_TLst, wg_P, wg_end, wg_then, theng_nx, wg_yield, wm_callG, wo_runG, List.nil_append, wx_okD, wx_okL, wx_okB, wx_okS, wx_cons, wx_call, wx_app, wx_bin, wx_tst, wx_not, wx_ite, thenx_nx, thenx_ret, thenx_rof, thenx_brk, thenx_cnt, wx_seq, wx_if, wx_ret, wx_drop, wx_set, wx_apd, ownL_own, wx_raise, strOf_s, wx_for, ws_noX, wx_tryA, wx_try, retq_ret, either_l, either_r, endq_nx, endq_ret, hL_hd, gL_hd, wo_runX, wx_own, wl_nil, wl_cons, wx_lc, wm_keys, wm_callIOF, wm_fmt, fmt_s, fmt_i, js_s, wm_js0, wm_js, wm_sortU, wm_fT, fT_val, fT_own, ws_newT, txtC_own, ws_newTD, ws_fill, fill_nil, retn_ret, retn_nx, wx_tryN, wx_tryR, rzq_str, h1_hd, mulL_ii, mulR_ti, wx_callXO, endoq_nx, endoq_ret, $xs,*])
theorem ints_sml {is : List Int} (hi : ∀ j ∈ is, j.natAbs ≤ 1000) (hl : is.length ≤ 3) : sml 5 262 (.tuple (is.map PyData.int)) := by
  have := sml_tup (n := 0) (k := 1) (l := is.map PyData.int) fun y hy => by
    obtain ⟨x, hx, rfl⟩ := List.mem_map.mp hy
    exact sml_int (by have := hi x hx; omega)
  exact sml_mono this (by omega) (by rw [List.length_map]; omega)
theorem nd_sml {opd : D} {is : List Int} (ho : sml 5 262 opd) (hi : ∀ j ∈ is, j.natAbs ≤ 1000) (hl : is.length ≤ 3) : sml 6 526 (.tuple [opd, .tuple (is.map PyData.int)]) := by
  have := sml_tup (n := 5) (k := 262) (l := [opd, .tuple (is.map PyData.int)]) fun y hy => by
    simp only [List.mem_cons, List.not_mem_nil, or_false] at hy
    rcases hy with rfl | rfl
    · exact ho
    · exact ints_sml hi hl
  exact this
theorem src_sml : sml 5 262 (srcD "s" sF) ∧ sml 5 262 (srcD "r" rF) ∧ sml 5 262 (srcD "s" rF) := by
  refine ⟨⟨by decide +kernel, by decide +kernel, by decide +kernel⟩, ⟨by decide +kernel, by decide +kernel, by decide +kernel⟩, ⟨by decide +kernel, by decide +kernel, by decide +kernel⟩⟩
theorem rep_plan {xs : List D} (h : ∀ x ∈ xs, sml 6 526 x) (hl : xs.length ≤ 17) : reprOk (.tuple xs) = true := by
  have h1 := sml_tup h
  exact repr_ok h1.1 (by have := h1.2.1; omega) (by have := h1.2.2; omega)
/-- a node of a plan -/
theorem pl_node {ns : List Nd} {os : List Ou} (pl : Pl ns os) (h16 : ns.length ≤ 16) {i : Nat} {n : Nd} (hi : ns[i]? = some n) : ∃ sd, sidesOf n.1 sd ∧ sd ≤ 2 ∧ n.2.length = sd ∧ (∀ j ∈ n.2, 0 ≤ j ∧ j < (i : Int)) ∧ sml 5 262 n.1 ∧ ((i = 0 ∧ sd = 0 ∧ n.2 = []) ∨ 1 ≤ i) ∧ (2 ≤ i → 1 ≤ sd) := by
  have hil : i < ns.length := (List.getElem?_eq_some_iff.mp hi).1
  by_cases c0 : i = 0
  · subst c0
    rw [pl.n0] at hi
    cases hi
    exact ⟨0, src_sides, by omega, rfl, by simp, src_sml.1, .inl ⟨rfl, rfl, rfl⟩, by omega⟩
  by_cases c1 : i = 1
  · subst c1
    rw [pl.n1] at hi
    cases hi
    exact ⟨0, src_sides, by omega, rfl, by simp, src_sml.2.1, .inr (by omega), by omega⟩
  have hio : i < os.length := by rw [← pl.len]; exact hil
  obtain ⟨o, e1, ho, hl, hin, hc⟩ := pl.nd i n os[i] (by omega) hi (List.getElem?_eq_getElem hio)
  have h1 : 1 ≤ sid o := by unfold sid; split <;> omega
  have h2 : sid o ≤ 2 := by unfold sid; split <;> omega
  exact ⟨sid o, by rw [e1]; exact op_sides, h2, hl, hin, by rw [e1]; exact ho.2.2.2, .inr (by omega), fun _ => h1⟩
theorem pl_sml {ns : List Nd} {os : List Ou} (pl : Pl ns os) (h16 : ns.length ≤ 16) : ∀ x ∈ ns.map ndD, sml 6 526 x := fun x hx => by
  obtain ⟨n, hn, rfl⟩ := List.mem_map.mp hx
  obtain ⟨i, hi, rfl⟩ := List.getElem_of_mem hn
  obtain ⟨sd, _, h2, hl, hin, hs, _⟩ := pl_node pl h16 (List.getElem?_eq_getElem hi)
  exact nd_sml hs (fun j hj => by have := hin j hj; omega) (by omega)
theorem fields_none : f_fields_of [.tuple []] = some (.inr ⟨"InvalidPlan", "no nodes"⟩) := by
  rw [← wo_eq]
  unfold f_fields_of
  rw [wo_runX]
  show Wx g_fields_of [some (.val (.tuple [])), none, none] _ _
  unfold g_fields_of
  simp! []
  rw [if_pos (show ((0 : Nat) : Int) = 0 from rfl)]
  trivial
theorem fields_many {xs : List D} (h : 16 < xs.length) : f_fields_of [.tuple xs] = some (.inr ⟨"InvalidPlan", "more than 16 nodes"⟩) := by
  have n0 : ¬ ((xs.length : Nat) : Int) = 0 := by omega
  have n16 : (16 : Int) < ((xs.length : Nat) : Int) := by omega
  rw [← wo_eq]
  unfold f_fields_of
  rw [wo_runX]
  show Wx g_fields_of [some (.val (.tuple xs)), none, none] _ _
  unfold g_fields_of
  simp! [n0, n16]
/-- the message as the law has it -/
def msgN (i : Int) (s : Str) : Str := ((("node " : Str) ++ ((toString i : String) : Str)) ++ s)
theorem emp_app : Str.empty ++ ("node " : Str) = "node " := by decide +kernel
theorem msg_eq {i : Int} {s : Str} : msgE i s = msgN i s := by
  unfold msgE msgN
  rw [emp_app]
theorem app_assoc {a b c : Str} : (a ++ b) ++ c = a ++ (b ++ c) := by
  have : ((a ++ b) ++ c).cps = (a ++ (b ++ c)).cps := by
    show (a.cps ++ b.cps) ++ c.cps = a.cps ++ (b.cps ++ c.cps)
    rw [Array.append_assoc]
  exact Str.mk.injEq .. ▸ this
theorem msgM_eq {i : Int} {m s : Str} (h : (": " : Str) ++ m = s) : msgM i m = msgN i s := by
  unfold msgM
  rw [msg_eq]
  unfold msgN
  rw [app_assoc, h]
theorem msg_so : (∀ i : Nat, i < 17 → PyData.strOk (msgN i ": inputs") = true) ∧ (∀ i : Nat, i < 17 → PyData.strOk (msgN i ": other fields") = true) ∧ (∀ i : Nat, i < 17 → PyData.strOk (msgN i ": there is no column zz") = true) ∧ (∀ i : Nat, i < 17 → PyData.strOk (msgN i ": types differ") = true) := by
  refine ⟨by decide +kernel, by decide +kernel, by decide +kernel, by decide +kernel⟩
def Bad (xs : List D) (m : Str) : Prop := f_fields_of [.tuple xs] = some (.inr ⟨"InvalidPlan", m⟩) ∧ PyData.strOk m = true ∧ reprOk (.tuple xs) = true
/-- one node exchanged -/
theorem bad_node {ns : List Nd} {os : List Ou} (pl : Pl ns os) (h9 : ns.length ≤ 9) {i sd : Nat} {opd : D} {is : List Int} (hi : i < ns.length) (ho : sidesOf opd sd) (hs : sml 5 262 opd) (hl : is.length ≤ 3) (hj : ∀ j ∈ is, j.natAbs ≤ 1000) (hne : ¬ (is.length = sd ∧ (is.filter (inB i)).length = sd)) :
    Bad ((ns.map ndD).take i ++ [.tuple [opd, .tuple (is.map PyData.int)]] ++ (ns.map ndD).drop (i + 1)) (msgN i ": inputs") := by
  have hln : ((ns.map ndD).take i).length = i := by rw [List.length_take, List.length_map]; omega
  have hxl : ((ns.map ndD).take i ++ [PyData.tuple [opd, .tuple (is.map PyData.int)]] ++ (ns.map ndD).drop (i + 1)).length = ns.length := by
    rw [List.length_append, List.length_append, hln, List.length_drop, List.length_map]
    simp only [List.length_cons, List.length_nil]
    omega
  have hat : ((ns.map ndD).take i ++ [PyData.tuple [opd, .tuple (is.map PyData.int)]] ++ (ns.map ndD).drop (i + 1))[i]? = some (.tuple [opd, .tuple (is.map PyData.int)]) := by
    rw [List.append_assoc, List.getElem?_append_right (by omega), hln, Nat.sub_self]
    rfl
  refine ⟨?_, msg_so.1 i (by omega), rep_plan (fun x hx => ?_) (by omega)⟩
  · refine pl_bad pl (by omega) (m := i) (by omega) (by omega) (by omega) (fun j hj => ?_) (.inl ?_)
    · rw [List.append_assoc, List.getElem?_append_left (by omega), List.getElem?_take_of_lt hj, List.getElem?_map]
    · rw [sp_inputs ((ixA_nat _ i).trans hat) ho (by omega) (by omega), if_neg hne, msg_eq]
  · rcases List.mem_append.mp hx with hx | hx
    · rcases List.mem_append.mp hx with hx | hx
      · exact pl_sml pl (by omega) x (List.mem_of_mem_take hx)
      · rw [List.mem_singleton.mp hx]
        exact nd_sml hs hj hl
    · exact pl_sml pl (by omega) x (List.mem_of_mem_drop hx)
/-- a node behind all -/
theorem bad_last {ns : List Nd} {os : List Ou} (pl : Pl ns os) (h9 : ns.length ≤ 9) {sd : Nat} {opd : D} {is : List Int} {m : Str} (ho : sidesOf opd sd) (hs : sml 5 262 opd) (hl : is.length = sd) (h3 : is.length ≤ 3) (hj : ∀ j ∈ is, 0 ≤ j ∧ j < (ns.length : Int)) (hm : PyData.strOk m = true)
    (hout : ∀ xs : List D, ixA xs (ns.length : Int) = some (.tuple [opd, .tuple (is.map PyData.int)]) → ixA xs 0 = some (.tuple [srcD "s" sF, .tuple []]) → f_output_of [.tuple xs, .int ns.length] (.list (os.map sdD)) = some (.inr ⟨"InvalidPlan", m⟩, .list (os.map sdD))) :
    Bad (ns.map ndD ++ [.tuple [opd, .tuple (is.map PyData.int)]]) m := by
  have two := pl.two
  have hln : (ns.map ndD).length = ns.length := by rw [List.length_map]
  have hat : (ns.map ndD ++ [PyData.tuple [opd, .tuple (is.map PyData.int)]])[ns.length]? = some (.tuple [opd, .tuple (is.map PyData.int)]) := by
    rw [List.getElem?_append_right (by omega), hln, Nat.sub_self]
    rfl
  have h0 : (ns.map ndD ++ [PyData.tuple [opd, .tuple (is.map PyData.int)]])[0]? = some (.tuple [srcD "s" sF, .tuple []]) := by
    rw [List.getElem?_append_left (by omega), List.getElem?_map, pl.n0]
    rfl
  refine ⟨?_, hm, rep_plan (fun x hx => ?_) (by rw [List.length_append, hln]; simp only [List.length_cons, List.length_nil]; omega)⟩
  · refine pl_bad pl (by omega) (m := ns.length) (by rw [List.length_append, hln]; simp only [List.length_cons, List.length_nil]; omega) (by rw [List.length_append, hln]; simp only [List.length_cons, List.length_nil]; omega) (Nat.le_refl _) (fun j hj => ?_) (.inr ⟨?_, ?_⟩)
    · rw [List.getElem?_append_left (by omega), List.getElem?_map]
    · rw [sp_inputs ((ixA_nat _ ns.length).trans hat) ho (by omega) (by omega), if_pos ⟨hl, by rw [filt_all hj]; exact hl⟩]
    · rw [pl.len, List.take_length, ← pl.len]
      exact hout _ ((ixA_nat _ ns.length).trans hat) ((ixA_nat _ 0).trans h0)
  · rcases List.mem_append.mp hx with hx | hx
    · exact pl_sml pl (by omega) x hx
    · rw [List.mem_singleton.mp hx]
      exact nd_sml hs (fun j h => by have := hj j h; omega) h3
theorem nm_z : nm "zz" ∧ nm "n" := by unfold nm; decide +kernel
theorem out_s {ns : List Nd} {os : List Ou} (pl : Pl ns os) : outAt os 0 = sdD (sF, false) := by
  have : ixA os ((0 : Nat) : Int) = some (sF, false) := (ixA_nat os 0).trans pl.o0
  show ((ixA os ((0 : Nat) : Int)).map sdD).getD .none = _
  rw [this]
  rfl
/-- a filter that is refused -/
theorem bad_filter {ns : List Nd} {os : List Ou} (pl : Pl ns os) (h9 : ns.length ≤ 9) {x m s : Str} (hx : nm x) (hr : resX (.filter (.col x)) sF sF false false = .inr m) (hm : m.length ≤ 1000) (hs : (": " : Str) ++ m = s) (hso : PyData.strOk (msgN ns.length s) = true) :
    Bad (ns.map ndD ++ [.tuple [.tuple [.str "filter", .tuple [.str "column", .str x]], .tuple [.int 0]]]) (msgN ns.length s) := by
  have ho : okO (.filter (.col x)) := ok_filter (lf_ex (lf_col hx))
  have hc := sp_chk (b0 := false) (b1 := false) ho sF_ok sF_ok
  rw [hr] at hc
  have two := pl.two
  refine bad_last pl h9 (is := [0]) (sd := 1) (opd := opD (.filter (.col x))) op_sides ho.2.2.2 rfl (by simp) (fun j hj => by rw [List.mem_singleton.mp hj]; omega) hso fun xs h1 h2 => ?_
  obtain ⟨w, w1, w2⟩ := op_w (.filter (.col x))
  have hb := sp_out_bad (os := os) (m := m) h1 w1 w2 (fun j hj => by rw [List.mem_singleton.mp hj, ← pl.len]; omega) (by simp) (by omega) hm (by
    rw [show ([0] : List Int).map (outAt os) = [outAt os 0] from rfl, out_s pl]
    exact hc)
  rw [hb, msgM_eq hs]
theorem res_z : resX (.filter (.col "zz")) sF sF false false = .inr (noC "zz") := by
  have h1 : ty sF (.col "zz") = .inr (noC "zz") := by
    unfold ty
    have : lookK sF "zz" = none := by simp [sF, lookK, str_iff]
    rw [this]
  unfold resX
  simp only [nmd, miss, flt, h1]
theorem res_n : resX (.filter (.col "n")) sF sF false false = .inr differS := by
  have h1 : ty sF (.col "n") = .inl (some "whole") := by
    unfold ty
    have : lookK sF "n" = some (("whole" : Str)) := by simp [sF, lookK, str_iff]
    rw [this]
  have h2 : agr (some "whole") (some "flag") = false := by decide +kernel
  unfold resX
  simp only [nmd, miss, flt, h1, dif, h2, Bool.not_false, ↓reduceIte]
theorem bad_src {ns : List Nd} {os : List Ou} (pl : Pl ns os) (h9 : ns.length ≤ 9) : Bad (ns.map ndD ++ [.tuple [srcD "s" rF, .tuple []]]) (msgN ns.length ": other fields") := by
  have two := pl.two
  refine bad_last pl h9 (is := []) (sd := 0) src_sides src_sml.2.2 rfl (by simp) (by simp) (msg_so.2.1 _ (by omega)) fun xs h1 h2 => ?_
  have hb := sp_out_srcB (os := os) (i := ns.length) (by omega) (by omega) h1 h2
  rw [hb, msg_eq]
end Lw
set_option maxHeartbeats 4000000
namespace Lw
open PySem Dn Dm DnSo
local macro_rules | `(tactic| simp! [$xs,*]) => `(tactic| simp (maxSteps := 4000000) only [backE, wipeE, wo_some, wo_none, wm_c, wm_var, wm_frz, wm_bin, wm_un, wm_tst, wm_tru, wm_truB, wm_chain, wm_and, wm_or, wm_not, wm_andV, wm_orV, wm_notV, wm_ifE, wm_nil, wm_cons, wm_app, wm_noP, wm_part, wm_sl, wm_pk, wm_io, wm_ix, wm_inB, wm_true, wm_seq, wm_rng1, wm_rng2,
    then_nx, then_ret, then_rof, then_brk, then_cnt, ws_next, ws_brk, ws_cnt, ws_seq, ws_if, ws_ret, ws_rof, ws_drop, ws_set, ws_own, ws_asg, wo_TN, wo_TNil, wo_TCons, wo_TTup, ws_ap, ws_setIx, ws_for, for_nil, turn_nx, turn_cnt, turn_brk, turn_ret, turn_rof, wm_lc, end_ret, end_nx, end_rof, end_io, ownOf_own, valOf_val, frz_val, frz_own, frz_ownD, ixO_l, ixO_d, cOwn_own, peek_val, peek_own, peek_ownD, by_val, by_own, canSet_none, canSet_val, canSet_own, lstOf_list,
    List.getElem?_cons_zero, List.getElem?_cons_succ, List.set_cons_zero, List.set_cons_succ, List.length_cons, List.length_nil, wo_ite, wo_bind, ↓reduceIte, and_true, true_and, and_self, Bool.false_eq_true, Bool.not_true, Bool.not_false, decide_eq_true_eq, decide_true, decide_false, oneInt_int, twoInts_int,
    add_ii, add_ll, add_tt, add_ss, sub_ii, mul_ii, mulS_ii, mod_ii, fdiv_ii, neg_i, le_ii, gt_ii, ge_ii, eqT_ii, eqT_ss, eqT_bb, eqT_nn, ltT_ii, ltT_ss, wo_eqD, wo_neD, wo_ltD, wo_inD, wo_ninD, is_n, isnt_n, is_bb, isnt_bb, isN, bOf_b, iOf_i, tru_b, tru_n, tru_i, tru_l, tru_t, seq_l, seq_t, tup_l, tup_t, lst_l, lst_t, len_l, len_t, int_i, int_b, abs_i, max_ii, min_ii, ix_li, ix_ti, cut_l, cut_t, flat_i, flat_b, flat_s, ix0, ix1, ix2, mkTup, mkLst,
    add2_ll, ws_par3, three_c, ws_grp, empty_own, lOwnD_own, wm_lcW, wm_getD, wm_ind, ix3, ix4, ix_m2, ix_m1, ix_p2, ix_p1, wm_newD, ws_setK, wm_get, wm_ixK, wm_sortN, ws_ext, dOwn_own, lOwn_own, lsD_list, step_nx, step_cnt, step_brk, step_ret, step_rof, wm_reve, rev_l, rev_t, wm_opBL, repr_l, sort_l, sum_l, wm_enum, enum_l, enum_t, enumL_nil, wm_dic, wm_kvn, wm_kvc, seq_s, mulT_si, len_s, ord_c, str_i, ty_d, k_lb, k_li, k_ls, k_tb, k_ti, k_ts, k_db, k_di, k_ds, k_lt, k_tl,
    isi_1, tyOk_n, tyOk_b, tyOk_i, tyOk_s, tyOk_l, tyOk_t, ty_n, ty_b, ty_i, ty_s, ty_l, ty_t, k_nb, k_bb, k_ib, k_sb, k_ni, k_bi, k_ii, k_si, k_ns, k_bs, k_is, k_ss, k_ll, k_tt,
    Int.reduceNeg, Int.reducePow, Int.reduceLT, Int.reduceLE, Int.reduceAdd, Int.reduceSub, Int.reduceMul, Int.reduceToNat, Nat.reduceAdd, Nat.reduceLeDiff, Nat.reduceEqDiff, Int.reduceEq, reduceCtorEq, ws_grpL, empty_ownL, wo_TLst, wg_P, wg_end, wg_then, theng_nx, wg_yield, wm_callG, wo_runG, List.nil_append, wx_okD, wx_okL, wx_okB, wx_okS, wx_cons, wx_call, wx_app, wx_bin, wx_tst, wx_not, wx_ite, thenx_nx, thenx_ret, thenx_rof, thenx_brk, thenx_cnt, wx_seq, wx_if, wx_ret, wx_drop, wx_set, wx_apd, ownL_own, wx_raise, strOf_s, wx_for, ws_noX, wx_tryA, wx_try, retq_ret, either_l, either_r, endq_nx, endq_ret, hL_hd, gL_hd, wo_runX, wx_own, wl_nil, wl_cons, wx_lc, wm_keys, wm_callIOF, wm_fmt, fmt_s, fmt_i, js_s, wm_js0, wm_js, wm_sortU, wm_fT, fT_val, fT_own, ws_newT, txtC_own, ws_newTD, ws_fill, fill_nil, retn_ret, retn_nx, wx_tryN, wx_tryR, rzq_str, h1_hd, mulL_ii, mulR_ti, wx_callXO, endoq_nx, endoq_ret, $xs,*])
theorem cut_last {α : Type} (xs : List α) : cutA xs none (some (-1)) = xs.take (xs.length - 1) := by
  unfold cutA
  rw [HT.sIx_none]
  rw [List.drop_zero, Nat.sub_zero]
  have : HT.sIx xs.length xs.length (some (-1)) = xs.length - 1 := by
    unfold HT.sIx
    simp
    omega
  rw [this]
theorem msg_len {i : Nat} (h : i ≤ 1000) {s : Str} (hs : s.length ≤ 1000) : (i : Int).natAbs.log2 < 1920 ∧ ("node " : Str).length + ((toString (i : Int) : String) : Str).length ≤ 16777216 ∧ (("node " : Str) ++ ((toString (i : Int) : String) : Str)).length + s.length ≤ 16777216 := by
  have h1 : ((toString (i : Int) : String) : Str).length ≤ 13 := PyData.shown_int_le (i := (i : Int)) (by omega)
  have h2 : ("node " : Str).length = 5 := by decide +kernel
  have h3 := int_log (i := (i : Int)) (by omega)
  refine ⟨by omega, by omega, ?_⟩
  rw [str_app]; omega
theorem flat_rep {α : Type} (x : α) : ∀ k : Nat, (List.replicate k [x]).flatten = List.replicate k x
  | 0 => rfl
  | k + 1 => by rw [List.replicate_succ, List.flatten_cons, flat_rep x k]; rfl
theorem bad_none : Bad [] "no nodes" := ⟨fields_none, by decide +kernel, rep_plan (by simp) (by simp)⟩
theorem bad_many {ns : List Nd} {os : List Ou} (pl : Pl ns os) (h9 : ns.length ≤ 9) : Bad (ns.map ndD ++ List.replicate (17 - ns.length) (.tuple [srcD "s" sF, .tuple []])) "more than 16 nodes" := by
  have hl : (ns.map ndD ++ List.replicate (17 - ns.length) (PyData.tuple [srcD "s" sF, .tuple []])).length = 17 := by
    rw [List.length_append, List.length_map, List.length_replicate]; omega
  refine ⟨fields_many (by omega), by decide +kernel, rep_plan (fun x hx => ?_) (by omega)⟩
  rcases List.mem_append.mp hx with hx | hx
  · exact pl_sml pl (by omega) x hx
  · rw [List.eq_of_mem_replicate hx]
    exact nd_sml (is := []) src_sml.1 (by simp) (by simp)
theorem filt_bad {is : List Int} {a sd : Nat} {x : Int} (hl : is.length = sd) (hx : inB a x = false) : ¬ ((is.take (is.length - 1) ++ [x]).length = sd ∧ ((is.take (is.length - 1) ++ [x]).filter (inB a)).length = sd) := by
  rintro ⟨h1, h2⟩
  rw [List.length_append, List.length_take] at h1
  simp only [List.length_cons, List.length_nil] at h1
  rw [List.filter_append, List.length_append, List.filter_cons_of_neg (by rw [hx]; simp)] at h2
  have h3 := List.length_filter_le (inB a) (is.take (is.length - 1))
  rw [List.length_take] at h3
  simp only [List.filter_nil, List.length_nil] at h2
  omega
theorem cut_wrong {is : List Int} {a : Nat} (h0 : (a = 0 ∧ is = []) ∨ ¬ ((a : Int) = 0)) : cutA (cutA (is.map PyData.int ++ [PyData.int 0]) none (some ((is.length : Int) + if (a : Int) = 0 then 1 else 0))) none (some (-1)) = (is.take (is.length - 1)).map PyData.int := by
  rw [cut_last]
  rcases h0 with ⟨rfl, rfl⟩ | h
  · rfl
  · rw [if_neg h, Int.add_zero, cut_take, List.take_left' (by rw [List.length_map]), List.length_map, List.map_take]
theorem wo_broken {ns : List Nd} {os : List Ou} {row : Int} {Q : D → Prop} (pl : Pl ns os) (h9 : ns.length ≤ 9) (q : ∀ xs m, Bad xs m → Q (.tuple [.tuple xs, .str m])) : Wo (f__law_broken [.tuple (ns.map ndD), .int row]) Q := by
  have two := pl.two
  -- the place
  obtain ⟨a, ha, han, ha2⟩ : ∃ a : Nat, (if (2 : Int) < ((ns.length : Nat) : Int) then (2 : Int) + row / 7 % (((ns.length : Nat) : Int) - 2) else 0) = (a : Int) ∧ a < ns.length ∧ (a = 0 ∨ 2 ≤ a) := by
    by_cases c : (2 : Int) < ((ns.length : Nat) : Int)
    · obtain ⟨k, hk, hk2⟩ := modN (row / 7) (show (0 : Int) < ((ns.length : Nat) : Int) - 2 by omega)
      refine ⟨2 + k, ?_, by omega, .inr (by omega)⟩
      rw [if_pos c, hk]
      omega
    · exact ⟨0, by rw [if_neg c]; rfl, by omega, .inl rfl⟩
  have hna := List.getElem?_eq_getElem han
  obtain ⟨sd, hsd, s2, hl, hin, hsm, h0, h2⟩ := pl_node pl (by omega) hna
  generalize hn : ns[a] = n at *
  obtain ⟨opd, is⟩ := n
  simp only at hsd hl hin hsm h0 h2
  have hix : ixA (ns.map ndD) (a : Int) = some (.tuple [opd, .tuple (is.map PyData.int)]) := by
    rw [ixA_nat, List.getElem?_map, hna]
    rfl
  have pos2 : (2 : Int) < ((ns.length : Nat) : Int) → (0 : Int) < ((ns.length : Nat) : Int) - 2 := fun h => by omega
  unfold f__law_broken
  rw [wo_runV]
  show Ws g__law_broken [some (.val (.tuple (ns.map ndD))), some (.val (.int row)), none, none, none, none, none] _
  unfold g__law_broken
  generalize hB : (sSeq (sAsg (gBin ixD (gVar 0) (gVar 3)) _) _) = B
  have go : ∀ j : Int, Ws B [some (.val (.tuple (ns.map ndD))), some (.val (.int row)), some (.val (.int j)), some (.val (.int a)), none, none, none] (fun f ρ => Wo (endV (f, ρ)) Q) := fun j => by
    subst hB
    have c1b : ((ns.map ndD).take a).length ≤ 9 := by rw [List.length_take, List.length_map]; omega
    have c1 : ((ns.map ndD).take a).length ≤ 16777215 := by omega
    have c2 : ((ns.map ndD).drop (a + 1)).length ≤ 9 := by rw [List.length_drop, List.length_map]; omega
    have n9 : ns.length ≤ 16777215 := by omega
    have i9 : is.length ≤ 16777215 := by omega
    obtain ⟨p1, p2, p3⟩ := msg_len (i := a) (s := ": inputs") (by omega) (by decide +kernel)
    obtain ⟨q1, q2, q3⟩ := msg_len (i := ns.length) (s := ": other fields") (by omega) (by decide +kernel)
    obtain ⟨_, _, q4⟩ := msg_len (i := ns.length) (s := ": there is no column zz") (by omega) (by decide +kernel)
    obtain ⟨_, _, q5⟩ := msg_len (i := ns.length) (s := ": types differ") (by omega) (by decide +kernel)
    have em : List.map PyData.int is ++ [PyData.int 0] = (is ++ [0]).map PyData.int := by simp
    have hia : ∀ y ∈ is, y.natAbs ≤ 1000 := fun y hy => by have := hin y hy; omega
    simp! [hix, sp_sf, sp_rf, List.length_map, n9, i9, p1, p2, p3, q1, q2, q3, q4, q5]
    split
    · exact q _ _ bad_none
    split
    · have e17 : ((17 : Int) - ((ns.length : Nat) : Int)).toNat = 17 - ns.length := by omega
      rw [e17, flat_rep]
      rw [if_pos ⟨by omega, by omega, by omega⟩, if_pos (by rw [List.length_replicate]; omega)]
      exact q _ _ (bad_many pl h9)
    split
    · rw [cut_take, cut_drop1, em]
      rw [if_pos c1, if_pos (by rw [List.length_append]; simp only [List.length_cons, List.length_nil]; omega)]
      exact q _ _ (bad_node pl h9 han hsd hsm (by rw [List.length_append]; simp only [List.length_cons, List.length_nil]; omega) (fun y hy => by
        rcases List.mem_append.mp hy with hy | hy
        · exact hia y hy
        · rw [List.mem_singleton.mp hy]; decide) (fun z => by
        have := z.1
        rw [List.length_append] at this
        simp only [List.length_cons, List.length_nil] at this
        omega))
    split
    · have hw := cut_wrong (is := is) (a := a) (by
        rcases h0 with ⟨z1, _, z2⟩ | z
        · exact .inl ⟨z1, z2⟩
        · exact .inr (by omega))
      rw [hw, cut_take, cut_drop1]
      have fin : ∀ x : Int, inB a x = false → x.natAbs ≤ 1000 → (if ((is.take (is.length - 1)).map PyData.int).length ≤ 16777215 then if ((ns.map ndD).take a).length ≤ 16777215 then if (((ns.map ndD).take a) ++ [PyData.tuple [opd, .tuple ((is.take (is.length - 1)).map PyData.int ++ [.int x])]]).length + ((ns.map ndD).drop (a + 1)).length ≤ 16777216 then Q (.tuple [.tuple ((ns.map ndD).take a ++ [PyData.tuple [opd, .tuple ((is.take (is.length - 1)).map PyData.int ++ [.int x])]] ++ (ns.map ndD).drop (a + 1)), .str (msgN a ": inputs")]) else False else False else False) := fun x hx hx2 => by
        have em2 : (is.take (is.length - 1)).map PyData.int ++ [PyData.int x] = (is.take (is.length - 1) ++ [x]).map PyData.int := by simp
        rw [em2, if_pos (by rw [List.length_map, List.length_take]; omega), if_pos c1, if_pos (by rw [List.length_append]; simp only [List.length_cons, List.length_nil]; omega)]
        refine q _ _ (bad_node pl h9 han hsd hsm (by rw [List.length_append, List.length_take]; simp only [List.length_cons, List.length_nil]; omega) (fun y hy => ?_) (filt_bad hl hx))
        rcases List.mem_append.mp hy with hy | hy
        · exact hia y (List.mem_of_mem_take hy)
        · rw [List.mem_singleton.mp hy]
          exact hx2
      refine wo_i3 (fin _ ?_ (by omega)) (fin _ ?_ (by omega)) (fin _ ?_ (by omega))
      · unfold inB
        rw [decide_eq_false (p := (a : Int) < (a : Int)) (by omega), Bool.and_false]
      · unfold inB
        rw [decide_eq_false (p := (a : Int) + 1 < (a : Int)) (by omega), Bool.and_false]
      · rfl
    split
    · exact q _ _ (bad_src pl h9)
    split
    · exact q _ _ (bad_filter pl h9 nm_z.1 res_z (by decide +kernel) (by decide +kernel) (msg_so.2.2.1 _ (by omega)))
    · exact q _ _ (bad_filter pl h9 nm_z.2 res_n (by decide +kernel) (by decide +kernel) (msg_so.2.2.2 _ (by omega)))
  simp! [List.length_map]
  split
  · rename_i c
    rw [if_pos c] at ha
    have c0 := pos2 c
    simp! [c0, ha]
    exact go _
  · rename_i c
    rw [if_neg c] at ha
    have := go (row % 7)
    rw [← ha] at this
    exact this
end Lw
set_option maxHeartbeats 4000000
namespace Lw
open PySem Dn Dm DnSo
local macro_rules | `(tactic| simp! [$xs,*]) => `(tactic| simp (maxSteps := 4000000) only [backE, wipeE, wo_some, wo_none, wm_c, wm_var, wm_frz, wm_bin, wm_un, wm_tst, wm_tru, wm_truB, wm_chain, wm_and, wm_or, wm_not, wm_andV, wm_orV, wm_notV, wm_ifE, wm_nil, wm_cons, wm_app, wm_noP, wm_part, wm_sl, wm_pk, wm_io, wm_ix, wm_inB, wm_true, wm_seq, wm_rng1, wm_rng2,
    then_nx, then_ret, then_rof, then_brk, then_cnt, ws_next, ws_brk, ws_cnt, ws_seq, ws_if, ws_ret, ws_rof, ws_drop, ws_set, ws_own, ws_asg, wo_TN, wo_TNil, wo_TCons, wo_TTup, ws_ap, ws_setIx, ws_for, for_nil, turn_nx, turn_cnt, turn_brk, turn_ret, turn_rof, wm_lc, end_ret, end_nx, end_rof, end_io, ownOf_own, valOf_val, frz_val, frz_own, frz_ownD, ixO_l, ixO_d, cOwn_own, peek_val, peek_own, peek_ownD, by_val, by_own, canSet_none, canSet_val, canSet_own, lstOf_list,
    List.getElem?_cons_zero, List.getElem?_cons_succ, List.set_cons_zero, List.set_cons_succ, List.length_cons, List.length_nil, wo_ite, wo_bind, ↓reduceIte, and_true, true_and, and_self, Bool.false_eq_true, Bool.not_true, Bool.not_false, decide_eq_true_eq, decide_true, decide_false, oneInt_int, twoInts_int,
    add_ii, add_ll, add_tt, add_ss, sub_ii, mul_ii, mulS_ii, mod_ii, fdiv_ii, neg_i, le_ii, gt_ii, ge_ii, eqT_ii, eqT_ss, eqT_bb, eqT_nn, ltT_ii, ltT_ss, wo_eqD, wo_neD, wo_ltD, wo_inD, wo_ninD, is_n, isnt_n, is_bb, isnt_bb, isN, bOf_b, iOf_i, tru_b, tru_n, tru_i, tru_l, tru_t, seq_l, seq_t, tup_l, tup_t, lst_l, lst_t, len_l, len_t, int_i, int_b, abs_i, max_ii, min_ii, ix_li, ix_ti, cut_l, cut_t, flat_i, flat_b, flat_s, ix0, ix1, ix2, mkTup, mkLst,
    add2_ll, ws_par3, three_c, ws_grp, empty_own, lOwnD_own, wm_lcW, wm_getD, wm_ind, ix3, ix4, ix_m2, ix_m1, ix_p2, ix_p1, wm_newD, ws_setK, wm_get, wm_ixK, wm_sortN, ws_ext, dOwn_own, lOwn_own, lsD_list, step_nx, step_cnt, step_brk, step_ret, step_rof, wm_reve, rev_l, rev_t, wm_opBL, repr_l, sort_l, sum_l, wm_enum, enum_l, enum_t, enumL_nil, wm_dic, wm_kvn, wm_kvc, seq_s, mulT_si, len_s, ord_c, str_i, ty_d, k_lb, k_li, k_ls, k_tb, k_ti, k_ts, k_db, k_di, k_ds, k_lt, k_tl,
    isi_1, tyOk_n, tyOk_b, tyOk_i, tyOk_s, tyOk_l, tyOk_t, ty_n, ty_b, ty_i, ty_s, ty_l, ty_t, k_nb, k_bb, k_ib, k_sb, k_ni, k_bi, k_ii, k_si, k_ns, k_bs, k_is, k_ss, k_ll, k_tt,
    Int.reduceNeg, Int.reducePow, Int.reduceLT, Int.reduceLE, Int.reduceAdd, Int.reduceSub, Int.reduceMul, Int.reduceToNat, Nat.reduceAdd, Nat.reduceLeDiff, Nat.reduceEqDiff, Int.reduceEq, reduceCtorEq, ws_grpL, empty_ownL, wo_TLst, wg_P, wg_end, wg_then, theng_nx, wg_yield, wm_callG, wo_runG, List.nil_append, wx_okD, wx_okL, wx_okB, wx_okS, wx_cons, wx_call, wx_app, wx_bin, wx_tst, wx_not, wx_ite, thenx_nx, thenx_ret, thenx_rof, thenx_brk, thenx_cnt, wx_seq, wx_if, wx_ret, wx_drop, wx_set, wx_apd, ownL_own, wx_raise, strOf_s, wx_for, ws_noX, wx_tryA, wx_try, retq_ret, either_l, either_r, endq_nx, endq_ret, hL_hd, gL_hd, wo_runX, wx_own, wl_nil, wl_cons, wx_lc, wm_keys, wm_callIOF, wm_fmt, fmt_s, fmt_i, js_s, wm_js0, wm_js, wm_sortU, wm_fT, fT_val, fT_own, ws_newT, txtC_own, ws_newTD, ws_fill, fill_nil, retn_ret, retn_nx, wx_tryN, wx_tryR, rzq_str, h1_hd, mulL_ii, mulR_ti, wx_callXO, endoq_nx, endoq_ret, $xs,*])
theorem wo_rows {ns : List Int} {Q : D → Prop} (q : ∀ rows : List Int, rows.length = 24 → Q (.list (rows.map PyData.int))) : Wo (f__law_rows [.list (ns.map PyData.int), .int 24]) Q := by
  unfold f__law_rows
  rw [wo_runV]
  show Ws g__law_rows [some (.val (.list (ns.map PyData.int))), some (.val (.int 24)), none, none, none] _
  unfold g__law_rows
  generalize hB : (sSeq (sSet 4 (gC (.int 0))) _) = B
  have hs : small62 24 = true := by decide
  simp! [hs]
  rw [rng_map]
  refine ws_forA (fun i : Nat => PyData.int i) (fun p ρ => ∃ (rows : List Int) (o3 o4 : Option Cell), (canSet (some o3) = some () ∧ canSet (some o4) = some ()) ∧ rows.length = p.length ∧ ρ = [some (.val (.list (ns.map PyData.int))), some (.val (.int 24)), some (.own false (.list (rows.map PyData.int))), o3, o4]) ⟨[], none, none, ⟨rfl, rfl⟩, rfl, rfl⟩ ?_ ?_
  · rintro p j r ρ e ⟨rows, o3, o4, ⟨h3, h4⟩, hl, rfl⟩
    obtain ⟨e1, e2⟩ := rng_split e
    subst hB
    have hj : (j : Int).natAbs.log2 + (j : Int).natAbs.log2 < 1000000 := by
      have := int_log (i := (j : Int)) (by omega)
      omega
    have fin : ∀ v : Int, ∃ (rows' : List Int) (o3 o4 : Option Cell), (canSet (some o3) = some () ∧ canSet (some o4) = some ()) ∧ rows'.length = (p ++ [j]).length ∧ [some (.val (.list (ns.map PyData.int))), some (.val (.int 24)), some (.own false (.list (rows.map PyData.int ++ [PyData.int v]))), some (.val (.int j)), some (.val (.int v))] = [some (.val (.list (ns.map PyData.int))), some (.val (.int 24)), some (.own false (.list (rows'.map PyData.int))), o3, o4] := fun v =>
      ⟨rows ++ [v], some (.val (.int j)), some (.val (.int v)), ⟨rfl, rfl⟩, by simp [hl], by simp⟩
    have hz : rows.length < 16777216 := by omega
    by_cases h0 : ns.length = 0
    · have h1 : ¬ ((0 : Int) < ((ns.length : Nat) : Int)) := by omega
      have h2 : ((ns.length : Nat) : Int) ≤ (j : Int) := by omega
      simp! [h3, h4, List.length_map, h1, h2, hj, hz]
      exact fin _
    · have h1 : (0 : Int) < ((ns.length : Nat) : Int) := by omega
      simp! [h3, h4, List.length_map, h1, hj, hz]
      refine wo_ix (Int.emod_nonneg _ (by omega)) (by rw [List.length_map]; exact Int.emod_lt_of_pos _ h1) fun d hd => ?_
      obtain ⟨v, _, rfl⟩ := List.mem_map.mp hd
      simp! [h3, h4, List.length_map, h1, hj, hz]
      repeat' split
      all_goals exact fin _
  · rintro ρ ⟨rows, o3, o4, ⟨h3, h4⟩, hl, rfl⟩
    simp! []
    rw [List.length_range] at hl
    exact q rows hl
theorem nor_l {f : List D → Option (D ⊕ Xc)} {xs : List D} {d : D} (h : f xs = some (.inl d)) : noR f xs = some d := by
  unfold noR
  rw [h]
theorem eq_fine : eqT (.tuple [.str "fine", .none]) (.tuple [.str "fine", .none]) = some true := by decide +kernel
theorem eq_src : eqT (.list [.str "s", .str "r"]) (.list [.str "s", .str "r"]) = some true := by decide +kernel
theorem eq_due {m : Str} (h : PyData.strOk m = true) : eqT (.tuple [.str "wrong", .str m, .bool true]) (.tuple [.str "wrong", .str m, .bool true]) = some true := by
  have hw : PyData.strOk ("wrong" : Str) = true := by decide +kernel
  have hs : SeqAt.shaped (.tuple [.str "wrong", .str m, .bool true]) = true := by
    simp [SeqAt.shaped, PyData.canLay0, PyData.canLayAll0, PyData.depth, PyData.depthAll, h, hw]
  show (if _ then _ else _) = _
  rw [if_pos ⟨hs, hs⟩]
  simp [PyData.eqv, PyData.eqvAll]
theorem rep_t {xs : List D} (h : reprOk (.tuple xs) = true) : reprF [.tuple xs] = some (.str (PyData.tuple xs).shown) := by
  show (if reprOk (.tuple xs) = true then _ else _) = _
  rw [if_pos h]
theorem rep_l {xs : List D} (h : reprOk (.list xs) = true) : reprF [.list xs] = some (.str (PyData.list xs).shown) := by
  show (if reprOk (.list xs) = true then _ else _) = _
  rw [if_pos h]
theorem sd_sml {r : Ou} (h : FsOk r.1) : sml 3 82 (sdD r) := by
  have h1 := sml_tup (n := 1) (k := 4) (l := r.1.map fdD) fun y hy => by
    obtain ⟨p, hp, rfl⟩ := List.mem_map.mp hy
    have hk : nm p.2 := by
      rcases (h.2 p hp).2 with e | e | e <;> rw [e] <;> unfold nm <;> decide +kernel
    have := sml_tup (n := 0) (k := 1) (l := [.str p.1, .str p.2]) fun z hz => by
      simp only [List.mem_cons, List.not_mem_nil, or_false] at hz
      rcases hz with rfl | rfl
      · exact sml_nm (h.2 p hp).1
      · exact sml_nm hk
    exact this
  have h2 : sml 2 40 (tpF r.1) := sml_mono h1 (by omega) (by rw [List.length_map]; have := h.1; omega)
  have h3 : sml 0 1 (kD r.2) := by cases r.2 <;> exact sml_s (by decide +kernel)
  have := sml_tup (n := 2) (k := 40) (l := [tpF r.1, kD r.2]) fun y hy => by
    simp only [List.mem_cons, List.not_mem_nil, or_false] at hy
    rcases hy with rfl | rfl
    · exact h2
    · exact sml_mono h3 (by omega) (by omega)
  exact this
theorem rep_outs {ns : List Nd} {os : List Ou} (pl : Pl ns os) (h9 : ns.length ≤ 9) : reprOk (.list (os.map sdD)) = true := by
  have h1 := sml_lst (n := 3) (k := 82) (l := os.map sdD) fun y hy => by
    obtain ⟨r, hr, rfl⟩ := List.mem_map.mp hy
    exact sd_sml (pl.fo r hr)
  have hl := pl.len
  exact repr_ok h1.1 (by have := h1.2.1; omega) (by have := h1.2.2; rw [List.length_map] at this; omega)
theorem law_true : ∀ ns : List Int, ns.length ≤ 63 → f_law [.list (ns.map .int)] = some (.bool true) := by
  intro ns hns
  rw [← wo_eq]
  unfold f_law
  rw [wo_runV]
  show Ws g_law [some (.val (.list (ns.map PyData.int))), none, none, none, none, none, none, none, none, none, none, none, none] _
  unfold g_law
  generalize hA : (sIf (gTst (gBin eqD (gBin ixD (gVar 4) (gC (.int 0))) (gC (.str "source")))) _ _) = A
  generalize hB : (sSeq (sAsg (gApp f__law_broken _) _) _) = B
  simp! []
  refine wo_rows fun rows hr => ?_
  obtain ⟨r0, hr0⟩ : ∃ r0, ixA (rows.map PyData.int) 0 = some (.int r0) := by
    cases rows with
    | nil => cases hr
    | cons a b => exact ⟨a, rfl⟩
  simp! [hr0]
  refine wo_plan (by omega) (Int.emod_nonneg _ (by omega)) (Int.emod_lt_of_pos _ (by omega)) fun pn po pl h9 => ?_
  have hlen := pl.len
  simp! []
  refine ws_forA ndD (fun p ρ => ∃ (o4 o5 : Option Cell), (canSet (some o4) = some () ∧ canSet (some o5) = some ()) ∧ ρ = [some (.val (.list (ns.map PyData.int))), some (.val (.list (rows.map PyData.int))), some (.val (.tuple (pn.map ndD))), some (.own false (.list ((po.take p.length).map sdD))), o4, o5, none, none, none, none, none, none, none]) ⟨none, none, ⟨rfl, rfl⟩, rfl⟩ ?_ ?_
  · rintro p n r ρ e ⟨o4, o5, ⟨h4, h5⟩, rfl⟩
    have hpl := congrArg List.length e
    rw [List.length_append, List.length_cons] at hpl
    have hn : pn[p.length]? = some n := by rw [e]; simp
    have hz : ((po.take p.length).map sdD).length < 16777216 := by rw [List.length_map, List.length_take]; omega
    have app : ∀ q : Ou, po[p.length]? = some q → (po.take p.length).map sdD ++ [sdD q] = (po.take (p ++ [n]).length).map sdD := fun q hq => by
      rw [List.length_append, List.length_cons, List.length_nil, List.take_succ, List.map_append, hq]
      rfl
    subst hA
    have src : ∀ x F, n = (srcD x F, []) → po[p.length]? = some (F, false) → ndD n = .tuple [srcD x F, .tuple []] ∧ ixD (srcD x F) (.int 0) = some (.str "source") ∧ ixD (srcD x F) (.int 2) = some (tpF F) := fun x F e1 _ => by
      rw [e1]
      exact ⟨rfl, rfl, rfl⟩
    by_cases c0 : p.length = 0
    · have hq : po[p.length]? = some (sF, false) := by rw [c0]; exact pl.o0
      have en : n = (srcD "s" sF, []) := by
        rw [c0, pl.n0] at hn
        exact (Option.some.inj hn).symm
      obtain ⟨s0, s1, s2⟩ := src _ _ en hq
      simp! [h4, h5, s0, s1, s2, hz]
      refine ⟨some (.val (srcD "s" sF)), some (.val (.tuple [])), ⟨rfl, rfl⟩, ?_⟩
      rw [← app _ hq]
      rfl
    by_cases c1 : p.length = 1
    · have hq : po[p.length]? = some (rF, false) := by rw [c1]; exact pl.o1
      have en : n = (srcD "r" rF, []) := by
        rw [c1, pl.n1] at hn
        exact (Option.some.inj hn).symm
      obtain ⟨s0, s1, s2⟩ := src _ _ en hq
      simp! [h4, h5, s0, s1, s2, hz]
      refine ⟨some (.val (srcD "r" rF)), some (.val (.tuple [])), ⟨rfl, rfl⟩, ?_⟩
      rw [← app _ hq]
      rfl
    have hpo : p.length < po.length := by omega
    obtain ⟨o, e1, ho, hl, hin, hc⟩ := pl.nd p.length n po[p.length] (by omega) hn (List.getElem?_eq_getElem hpo)
    obtain ⟨w, w1, w2⟩ := op_w o
    obtain ⟨opd, is⟩ := n
    have e1 : opd = opD o := e1
    subst e1
    have hl : is.length = sid o := hl
    have hin : ∀ j ∈ is, 0 ≤ j ∧ j < (p.length : Int) := hin
    have hs2 : sid o ≤ 2 := by unfold sid; split <;> omega
    have en : ndD (opD o, is) = .tuple [opD o, .tuple (is.map PyData.int)] := rfl
    have hc2 : noR f_check_operator [opD o, .list (is.map (outAt (po.take p.length)))] = some (sdD po[p.length]) := by
      rw [show is.map (outAt (po.take p.length)) = is.map (outAt po) from List.map_congr_left fun j hj => out_take (hin j hj).1 (hin j hj).2]
      exact nor_l hc
    simp! [h4, h5, en, w1, w2, List.length_map]
    refine ⟨⟨by omega, rfl⟩, ?_⟩
    refine lc_mapA PyData.int (outAt (po.take p.length)) _ (fun j hj => ?_) ?_
    · obtain ⟨r1, e1, e2, e3⟩ := out_at (os := po.take p.length) (hin j hj).1 (by rw [List.length_take]; have := (hin j hj).2; omega)
      simp! [e3]
      all_goals rfl
    · simp! [backE, hc2, h4, h5, hz]
      refine ⟨some (.val (opD o)), some (.val (.tuple (is.map PyData.int))), ⟨rfl, rfl⟩, ?_⟩
      rw [← app _ (List.getElem?_eq_getElem hpo)]
  · rintro ρ ⟨o4, o5, ⟨h4, h5⟩, rfl⟩
    have tk : po.take pn.length = po := by rw [hlen, List.take_length]
    have f1 := told_l (pl_fields pl (by omega))
    have f2 := nor_l (pl_fields pl (by omega))
    have f3 := pl_sources pl
    have f4 := rep_l (rep_outs pl h9)
    rw [tk]
    have hs1 : small62 12 = true := by decide
    have hs2 : small62 22 = true := by decide
    simp! [f1, f2, f3, f4, eq_fine, eq_src, hs1, hs2]
    have er : rngL 12 10 = (List.range 10).map fun i : Nat => PyData.int (12 + (i : Int)) := rfl
    rw [er]
    refine ws_forA (fun i : Nat => PyData.int (12 + (i : Int))) (fun p ρ => ∃ (o7 o8 o9 o10 o11 : Option Cell), (canSet (some o7) = some () ∧ canSet (some o8) = some () ∧ canSet (some o9) = some () ∧ canSet (some o10) = some () ∧ canSet (some o11) = some ()) ∧ ρ = [some (.val (.list (ns.map PyData.int))), some (.val (.list (rows.map PyData.int))), some (.val (.tuple (pn.map ndD))), some (.val (.list (po.map sdD))), o4, o5, some (.val (.list (po.map sdD))), o7, o8, o9, o10, o11, none]) ⟨none, none, none, none, none, ⟨rfl, rfl, rfl, rfl, rfl⟩, rfl⟩ ?_ ?_
    · rintro p j r ρ e ⟨o7, o8, o9, o10, o11, ⟨h7, h8, h9', h10, h11⟩, rfl⟩
      obtain ⟨e1, e2⟩ := rng_split e
      subst hB
      simp! [h7, h8, h9', h10, h11]
      refine wo_ix (by omega) (by rw [List.length_map]; omega) fun d hd => ?_
      obtain ⟨v, _, rfl⟩ := List.mem_map.mp hd
      try simp! [h7, h8, h9', h10, h11]
      refine wo_broken pl h9 fun xs m hb => ?_
      have g1 := rep_t hb.2.2
      have g2 := told_r (b := true) hb.1
      have g3 := told_r (b := false) hb.1
      have g4 := eq_due hb.2.1
      simp! [h7, h8, h9', h10, h11, g1, g2, g3, g4]
      exact ⟨_, _, _, _, _, ⟨rfl, rfl, rfl, rfl, rfl⟩, rfl⟩
    · rintro ρ ⟨o7, o8, o9, o10, o11, ⟨h7, h8, h9', h10, h11⟩, rfl⟩
      simp! []
end Lw
set_option maxHeartbeats 4000000
namespace Lw
open PySem PySem.Spec PyProof.Rows L2 Dn
theorem all_mk {l : PySem.W.OpenLaw} {w : World} {K : PySem.W.Frag} {h : Heap} {mg : Str → Option Value} {fa : Addr} (X : K.In h) (G : h.Ns mainGlobals mg) (hfa : mg "law" = some (.ref fa))
    {f0 : Addr} {oc0 kV0 dc0 pm0 cd0 ct0 : Value} {od0 an0 : Option Addr} {sl0 : Array (Option Value)}
    (a0 : PySem.W.nsIn K mainGlobals "_law_r_fields" = some (some (.ref f0))) (l0 : K.lookup f0 = some ⟨oc0, od0, .func (PySem.W.fnOf "_law_r_fields" "_law_r_fields" (defArgs s__law_r_fields) (defBody s__law_r_fields) (defScope s__law_r_fields) .none kV0 dc0 pm0 an0 cd0 ct0), sl0⟩) (c0 : PySem.W.codeIn K cd0 "_law_r_fields" = true) (k0 : PySem.W.keepIn K (.ref f0) = true)
    {f1 : Addr} {oc1 kV1 dc1 pm1 cd1 ct1 : Value} {od1 an1 : Option Addr} {sl1 : Array (Option Value)}
    (a1 : PySem.W.nsIn K mainGlobals "_law_s_fields" = some (some (.ref f1))) (l1 : K.lookup f1 = some ⟨oc1, od1, .func (PySem.W.fnOf "_law_s_fields" "_law_s_fields" (defArgs s__law_s_fields) (defBody s__law_s_fields) (defScope s__law_s_fields) .none kV1 dc1 pm1 an1 cd1 ct1), sl1⟩) (c1 : PySem.W.codeIn K cd1 "_law_s_fields" = true) (k1 : PySem.W.keepIn K (.ref f1) = true)
    {f2 : Addr} {oc2 kV2 dc2 pm2 cd2 ct2 : Value} {od2 an2 : Option Addr} {sl2 : Array (Option Value)}
    (a2 : PySem.W.nsIn K mainGlobals "_law_broken" = some (some (.ref f2))) (l2 : K.lookup f2 = some ⟨oc2, od2, .func (PySem.W.fnOf "_law_broken" "_law_broken" (defArgs s__law_broken) (defBody s__law_broken) (defScope s__law_broken) .none kV2 dc2 pm2 an2 cd2 ct2), sl2⟩) (c2 : PySem.W.codeIn K cd2 "_law_broken" = true) (k2 : PySem.W.keepIn K (.ref f2) = true)
    {f3 : Addr} {oc3 kV3 dc3 pm3 cd3 ct3 : Value} {od3 an3 : Option Addr} {sl3 : Array (Option Value)}
    (a3 : PySem.W.nsIn K mainGlobals "_law_columns" = some (some (.ref f3))) (l3 : K.lookup f3 = some ⟨oc3, od3, .func (PySem.W.fnOf "_law_columns" "_law_columns" (defArgs s__law_columns) (defBody s__law_columns) (defScope s__law_columns) .none kV3 dc3 pm3 an3 cd3 ct3), sl3⟩) (c3 : PySem.W.codeIn K cd3 "_law_columns" = true) (k3 : PySem.W.keepIn K (.ref f3) = true)
    {f4 : Addr} {oc4 kV4 dc4 pm4 cd4 ct4 : Value} {od4 an4 : Option Addr} {sl4 : Array (Option Value)}
    (a4 : PySem.W.nsIn K mainGlobals "_law_pick" = some (some (.ref f4))) (l4 : K.lookup f4 = some ⟨oc4, od4, .func (PySem.W.fnOf "_law_pick" "_law_pick" (defArgs s__law_pick) (defBody s__law_pick) (defScope s__law_pick) .none kV4 dc4 pm4 an4 cd4 ct4), sl4⟩) (c4 : PySem.W.codeIn K cd4 "_law_pick" = true) (k4 : PySem.W.keepIn K (.ref f4) = true)
    {f5 : Addr} {oc5 kV5 dc5 pm5 cd5 ct5 : Value} {od5 an5 : Option Addr} {sl5 : Array (Option Value)}
    (a5 : PySem.W.nsIn K mainGlobals "_law_aggs" = some (some (.ref f5))) (l5 : K.lookup f5 = some ⟨oc5, od5, .func (PySem.W.fnOf "_law_aggs" "_law_aggs" (defArgs s__law_aggs) (defBody s__law_aggs) (defScope s__law_aggs) .none kV5 dc5 pm5 an5 cd5 ct5), sl5⟩) (c5 : PySem.W.codeIn K cd5 "_law_aggs" = true) (k5 : PySem.W.keepIn K (.ref f5) = true)
    {f6 : Addr} {oc6 kV6 dc6 pm6 cd6 ct6 : Value} {od6 an6 : Option Addr} {sl6 : Array (Option Value)}
    (a6 : PySem.W.nsIn K mainGlobals "_law_keys" = some (some (.ref f6))) (l6 : K.lookup f6 = some ⟨oc6, od6, .func (PySem.W.fnOf "_law_keys" "_law_keys" (defArgs s__law_keys) (defBody s__law_keys) (defScope s__law_keys) .none kV6 dc6 pm6 an6 cd6 ct6), sl6⟩) (c6 : PySem.W.codeIn K cd6 "_law_keys" = true) (k6 : PySem.W.keepIn K (.ref f6) = true)
    {f7 : Addr} {oc7 kV7 dc7 pm7 cd7 ct7 : Value} {od7 an7 : Option Addr} {sl7 : Array (Option Value)}
    (a7 : PySem.W.nsIn K mainGlobals "_law_map" = some (some (.ref f7))) (l7 : K.lookup f7 = some ⟨oc7, od7, .func (PySem.W.fnOf "_law_map" "_law_map" (defArgs s__law_map) (defBody s__law_map) (defScope s__law_map) .none kV7 dc7 pm7 an7 cd7 ct7), sl7⟩) (c7 : PySem.W.codeIn K cd7 "_law_map" = true) (k7 : PySem.W.keepIn K (.ref f7) = true)
    {f8 : Addr} {oc8 kV8 dc8 pm8 cd8 ct8 : Value} {od8 an8 : Option Addr} {sl8 : Array (Option Value)}
    (a8 : PySem.W.nsIn K mainGlobals "_law_on" = some (some (.ref f8))) (l8 : K.lookup f8 = some ⟨oc8, od8, .func (PySem.W.fnOf "_law_on" "_law_on" (defArgs s__law_on) (defBody s__law_on) (defScope s__law_on) .none kV8 dc8 pm8 an8 cd8 ct8), sl8⟩) (c8 : PySem.W.codeIn K cd8 "_law_on" = true) (k8 : PySem.W.keepIn K (.ref f8) = true)
    {f9 : Addr} {oc9 kV9 dc9 pm9 cd9 ct9 : Value} {od9 an9 : Option Addr} {sl9 : Array (Option Value)}
    (a9 : PySem.W.nsIn K mainGlobals "_law_where" = some (some (.ref f9))) (l9 : K.lookup f9 = some ⟨oc9, od9, .func (PySem.W.fnOf "_law_where" "_law_where" (defArgs s__law_where) (defBody s__law_where) (defScope s__law_where) .none kV9 dc9 pm9 an9 cd9 ct9), sl9⟩) (c9 : PySem.W.codeIn K cd9 "_law_where" = true) (k9 : PySem.W.keepIn K (.ref f9) = true)
    {f10 : Addr} {oc10 kV10 dc10 pm10 cd10 ct10 : Value} {od10 an10 : Option Addr} {sl10 : Array (Option Value)}
    (a10 : PySem.W.nsIn K mainGlobals "_law_operator" = some (some (.ref f10))) (l10 : K.lookup f10 = some ⟨oc10, od10, .func (PySem.W.fnOf "_law_operator" "_law_operator" (defArgs s__law_operator) (defBody s__law_operator) (defScope s__law_operator) .none kV10 dc10 pm10 an10 cd10 ct10), sl10⟩) (c10 : PySem.W.codeIn K cd10 "_law_operator" = true) (k10 : PySem.W.keepIn K (.ref f10) = true)
    {f11 : Addr} {oc11 kV11 dc11 pm11 cd11 ct11 : Value} {od11 an11 : Option Addr} {sl11 : Array (Option Value)}
    (a11 : PySem.W.nsIn K mainGlobals "column_index" = some (some (.ref f11))) (l11 : K.lookup f11 = some ⟨oc11, od11, .func (PySem.W.fnOf "column_index" "column_index" (defArgs s_column_index) (defBody s_column_index) (defScope s_column_index) .none kV11 dc11 pm11 an11 cd11 ct11), sl11⟩) (c11 : PySem.W.codeIn K cd11 "column_index" = true) (k11 : PySem.W.keepIn K (.ref f11) = true)
    {f12 : Addr} {oc12 kV12 dc12 pm12 cd12 ct12 : Value} {od12 an12 : Option Addr} {sl12 : Array (Option Value)}
    (a12 : PySem.W.nsIn K mainGlobals "type_in" = some (some (.ref f12))) (l12 : K.lookup f12 = some ⟨oc12, od12, .func (PySem.W.fnOf "type_in" "type_in" (defArgs s_type_in) (defBody s_type_in) (defScope s_type_in) .none kV12 dc12 pm12 an12 cd12 ct12), sl12⟩) (c12 : PySem.W.codeIn K cd12 "type_in" = true) (k12 : PySem.W.keepIn K (.ref f12) = true)
    {f13 : Addr} {oc13 kV13 dc13 pm13 cd13 ct13 : Value} {od13 an13 : Option Addr} {sl13 : Array (Option Value)}
    (a13 : PySem.W.nsIn K mainGlobals "check_columns" = some (some (.ref f13))) (l13 : K.lookup f13 = some ⟨oc13, od13, .func (PySem.W.fnOf "check_columns" "check_columns" (defArgs s_check_columns) (defBody s_check_columns) (defScope s_check_columns) .none kV13 dc13 pm13 an13 cd13 ct13), sl13⟩) (c13 : PySem.W.codeIn K cd13 "check_columns" = true) (k13 : PySem.W.keepIn K (.ref f13) = true)
    {f14 : Addr} {oc14 kV14 dc14 pm14 cd14 ct14 : Value} {od14 an14 : Option Addr} {sl14 : Array (Option Value)}
    (a14 : PySem.W.nsIn K mainGlobals "check_kinds" = some (some (.ref f14))) (l14 : K.lookup f14 = some ⟨oc14, od14, .func (PySem.W.fnOf "check_kinds" "check_kinds" (defArgs s_check_kinds) (defBody s_check_kinds) (defScope s_check_kinds) .none kV14 dc14 pm14 an14 cd14 ct14), sl14⟩) (c14 : PySem.W.codeIn K cd14 "check_kinds" = true) (k14 : PySem.W.keepIn K (.ref f14) = true)
    {f15 : Addr} {oc15 kV15 dc15 pm15 cd15 ct15 : Value} {od15 an15 : Option Addr} {sl15 : Array (Option Value)}
    (a15 : PySem.W.nsIn K mainGlobals "agree" = some (some (.ref f15))) (l15 : K.lookup f15 = some ⟨oc15, od15, .func (PySem.W.fnOf "agree" "agree" (defArgs s_agree) (defBody s_agree) (defScope s_agree) .none kV15 dc15 pm15 an15 cd15 ct15), sl15⟩) (c15 : PySem.W.codeIn K cd15 "agree" = true) (k15 : PySem.W.keepIn K (.ref f15) = true)
    {f16 : Addr} {oc16 kV16 dc16 pm16 cd16 ct16 : Value} {od16 an16 : Option Addr} {sl16 : Array (Option Value)}
    (a16 : PySem.W.nsIn K mainGlobals "differ" = some (some (.ref f16))) (l16 : K.lookup f16 = some ⟨oc16, od16, .func (PySem.W.fnOf "differ" "differ" (defArgs s_differ) (defBody s_differ) (defScope s_differ) .none kV16 dc16 pm16 an16 cd16 ct16), sl16⟩) (c16 : PySem.W.codeIn K cd16 "differ" = true) (k16 : PySem.W.keepIn K (.ref f16) = true)
    {f17 : Addr} {oc17 kV17 dc17 pm17 cd17 ct17 : Value} {od17 an17 : Option Addr} {sl17 : Array (Option Value)}
    (a17 : PySem.W.nsIn K mainGlobals "check_pairs" = some (some (.ref f17))) (l17 : K.lookup f17 = some ⟨oc17, od17, .func (PySem.W.fnOf "check_pairs" "check_pairs" (defArgs s_check_pairs) (defBody s_check_pairs) (defScope s_check_pairs) .none kV17 dc17 pm17 an17 cd17 ct17), sl17⟩) (c17 : PySem.W.codeIn K cd17 "check_pairs" = true) (k17 : PySem.W.keepIn K (.ref f17) = true)
    {f18 : Addr} {oc18 kV18 dc18 pm18 cd18 ct18 : Value} {od18 an18 : Option Addr} {sl18 : Array (Option Value)}
    (a18 : PySem.W.nsIn K mainGlobals "parts_of" = some (some (.ref f18))) (l18 : K.lookup f18 = some ⟨oc18, od18, .func (PySem.W.fnOf "parts_of" "parts_of" (defArgs s_parts_of) (defBody s_parts_of) (defScope s_parts_of) .none kV18 dc18 pm18 an18 cd18 ct18), sl18⟩) (c18 : PySem.W.codeIn K cd18 "parts_of" = true) (k18 : PySem.W.keepIn K (.ref f18) = true)
    {f19 : Addr} {oc19 kV19 dc19 pm19 cd19 ct19 : Value} {od19 an19 : Option Addr} {sl19 : Array (Option Value)}
    (a19 : PySem.W.nsIn K mainGlobals "want" = some (some (.ref f19))) (l19 : K.lookup f19 = some ⟨oc19, od19, .func (PySem.W.fnOf "want" "want" (defArgs s_want) (defBody s_want) (defScope s_want) .none kV19 dc19 pm19 an19 cd19 ct19), sl19⟩) (c19 : PySem.W.codeIn K cd19 "want" = true) (k19 : PySem.W.keepIn K (.ref f19) = true)
    {f20 : Addr} {oc20 kV20 dc20 pm20 cd20 ct20 : Value} {od20 an20 : Option Addr} {sl20 : Array (Option Value)}
    (a20 : PySem.W.nsIn K mainGlobals "type_of_binary" = some (some (.ref f20))) (l20 : K.lookup f20 = some ⟨oc20, od20, .func (PySem.W.fnOf "type_of_binary" "type_of_binary" (defArgs s_type_of_binary) (defBody s_type_of_binary) (defScope s_type_of_binary) .none kV20 dc20 pm20 an20 cd20 ct20), sl20⟩) (c20 : PySem.W.codeIn K cd20 "type_of_binary" = true) (k20 : PySem.W.keepIn K (.ref f20) = true)
    {f21 : Addr} {oc21 kV21 dc21 pm21 cd21 ct21 : Value} {od21 an21 : Option Addr} {sl21 : Array (Option Value)}
    (a21 : PySem.W.nsIn K mainGlobals "type_of_value" = some (some (.ref f21))) (l21 : K.lookup f21 = some ⟨oc21, od21, .func (PySem.W.fnOf "type_of_value" "type_of_value" (defArgs s_type_of_value) (defBody s_type_of_value) (defScope s_type_of_value) .none kV21 dc21 pm21 an21 cd21 ct21), sl21⟩) (c21 : PySem.W.codeIn K cd21 "type_of_value" = true) (k21 : PySem.W.keepIn K (.ref f21) = true)
    {f22 : Addr} {oc22 kV22 dc22 pm22 cd22 ct22 : Value} {od22 an22 : Option Addr} {sl22 : Array (Option Value)}
    (a22 : PySem.W.nsIn K mainGlobals "type_of" = some (some (.ref f22))) (l22 : K.lookup f22 = some ⟨oc22, od22, .func (PySem.W.fnOf "type_of" "type_of" (defArgs s_type_of) (defBody s_type_of) (defScope s_type_of) .none kV22 dc22 pm22 an22 cd22 ct22), sl22⟩) (c22 : PySem.W.codeIn K cd22 "type_of" = true) (k22 : PySem.W.keepIn K (.ref f22) = true)
    {f23 : Addr} {oc23 kV23 dc23 pm23 cd23 ct23 : Value} {od23 an23 : Option Addr} {sl23 : Array (Option Value)}
    (a23 : PySem.W.nsIn K mainGlobals "mapped" = some (some (.ref f23))) (l23 : K.lookup f23 = some ⟨oc23, od23, .func (PySem.W.fnOf "mapped" "mapped" (defArgs s_mapped) (defBody s_mapped) (defScope s_mapped) .none kV23 dc23 pm23 an23 cd23 ct23), sl23⟩) (c23 : PySem.W.codeIn K cd23 "mapped" = true) (k23 : PySem.W.keepIn K (.ref f23) = true)
    {f24 : Addr} {oc24 kV24 dc24 pm24 cd24 ct24 : Value} {od24 an24 : Option Addr} {sl24 : Array (Option Value)}
    (a24 : PySem.W.nsIn K mainGlobals "aggregate_type" = some (some (.ref f24))) (l24 : K.lookup f24 = some ⟨oc24, od24, .func (PySem.W.fnOf "aggregate_type" "aggregate_type" (defArgs s_aggregate_type) (defBody s_aggregate_type) (defScope s_aggregate_type) .none kV24 dc24 pm24 an24 cd24 ct24), sl24⟩) (c24 : PySem.W.codeIn K cd24 "aggregate_type" = true) (k24 : PySem.W.keepIn K (.ref f24) = true)
    {f25 : Addr} {oc25 kV25 dc25 pm25 cd25 ct25 : Value} {od25 an25 : Option Addr} {sl25 : Array (Option Value)}
    (a25 : PySem.W.nsIn K mainGlobals "with_aggregates" = some (some (.ref f25))) (l25 : K.lookup f25 = some ⟨oc25, od25, .func (PySem.W.fnOf "with_aggregates" "with_aggregates" (defArgs s_with_aggregates) (defBody s_with_aggregates) (defScope s_with_aggregates) .none kV25 dc25 pm25 an25 cd25 ct25), sl25⟩) (c25 : PySem.W.codeIn K cd25 "with_aggregates" = true) (k25 : PySem.W.keepIn K (.ref f25) = true)
    {f26 : Addr} {oc26 kV26 dc26 pm26 cd26 ct26 : Value} {od26 an26 : Option Addr} {sl26 : Array (Option Value)}
    (a26 : PySem.W.nsIn K mainGlobals "output_fields" = some (some (.ref f26))) (l26 : K.lookup f26 = some ⟨oc26, od26, .func (PySem.W.fnOf "output_fields" "output_fields" (defArgs s_output_fields) (defBody s_output_fields) (defScope s_output_fields) .none kV26 dc26 pm26 an26 cd26 ct26), sl26⟩) (c26 : PySem.W.codeIn K cd26 "output_fields" = true) (k26 : PySem.W.keepIn K (.ref f26) = true)
    {f27 : Addr} {oc27 kV27 dc27 pm27 cd27 ct27 : Value} {od27 an27 : Option Addr} {sl27 : Array (Option Value)}
    (a27 : PySem.W.nsIn K mainGlobals "output_kind" = some (some (.ref f27))) (l27 : K.lookup f27 = some ⟨oc27, od27, .func (PySem.W.fnOf "output_kind" "output_kind" (defArgs s_output_kind) (defBody s_output_kind) (defScope s_output_kind) .none kV27 dc27 pm27 an27 cd27 ct27), sl27⟩) (c27 : PySem.W.codeIn K cd27 "output_kind" = true) (k27 : PySem.W.keepIn K (.ref f27) = true)
    {f28 : Addr} {oc28 kV28 dc28 pm28 cd28 ct28 : Value} {od28 an28 : Option Addr} {sl28 : Array (Option Value)}
    (a28 : PySem.W.nsIn K mainGlobals "check_operator" = some (some (.ref f28))) (l28 : K.lookup f28 = some ⟨oc28, od28, .func (PySem.W.fnOf "check_operator" "check_operator" (defArgs s_check_operator) (defBody s_check_operator) (defScope s_check_operator) .none kV28 dc28 pm28 an28 cd28 ct28), sl28⟩) (c28 : PySem.W.codeIn K cd28 "check_operator" = true) (k28 : PySem.W.keepIn K (.ref f28) = true)
    {f29 : Addr} {oc29 kV29 dc29 pm29 cd29 ct29 : Value} {od29 an29 : Option Addr} {sl29 : Array (Option Value)}
    (a29 : PySem.W.nsIn K mainGlobals "sides_of" = some (some (.ref f29))) (l29 : K.lookup f29 = some ⟨oc29, od29, .func (PySem.W.fnOf "sides_of" "sides_of" (defArgs s_sides_of) (defBody s_sides_of) (defScope s_sides_of) .none kV29 dc29 pm29 an29 cd29 ct29), sl29⟩) (c29 : PySem.W.codeIn K cd29 "sides_of" = true) (k29 : PySem.W.keepIn K (.ref f29) = true)
    {f30 : Addr} {oc30 kV30 dc30 pm30 cd30 ct30 : Value} {od30 an30 : Option Addr} {sl30 : Array (Option Value)}
    (a30 : PySem.W.nsIn K mainGlobals "_law_drawn_plan" = some (some (.ref f30))) (l30 : K.lookup f30 = some ⟨oc30, od30, .func (PySem.W.fnOf "_law_drawn_plan" "_law_drawn_plan" (defArgs s__law_drawn_plan) (defBody s__law_drawn_plan) (defScope s__law_drawn_plan) .none kV30 dc30 pm30 an30 cd30 ct30), sl30⟩) (c30 : PySem.W.codeIn K cd30 "_law_drawn_plan" = true) (k30 : PySem.W.keepIn K (.ref f30) = true)
    {f31 : Addr} {oc31 kV31 dc31 pm31 cd31 ct31 : Value} {od31 an31 : Option Addr} {sl31 : Array (Option Value)}
    (a31 : PySem.W.nsIn K mainGlobals "_law_rows" = some (some (.ref f31))) (l31 : K.lookup f31 = some ⟨oc31, od31, .func (PySem.W.fnOf "_law_rows" "_law_rows" (defArgs s__law_rows) (defBody s__law_rows) (defScope s__law_rows) .none kV31 dc31 pm31 an31 cd31 ct31), sl31⟩) (c31 : PySem.W.codeIn K cd31 "_law_rows" = true) (k31 : PySem.W.keepIn K (.ref f31) = true)
    {f32 : Addr} {oc32 kV32 dc32 pm32 cd32 ct32 : Value} {od32 an32 : Option Addr} {sl32 : Array (Option Value)}
    (a32 : PySem.W.nsIn K mainGlobals "check_inputs" = some (some (.ref f32))) (l32 : K.lookup f32 = some ⟨oc32, od32, .func (PySem.W.fnOf "check_inputs" "check_inputs" (defArgs s_check_inputs) (defBody s_check_inputs) (defScope s_check_inputs) .none kV32 dc32 pm32 an32 cd32 ct32), sl32⟩) (c32 : PySem.W.codeIn K cd32 "check_inputs" = true) (k32 : PySem.W.keepIn K (.ref f32) = true)
    {f33 : Addr} {oc33 kV33 dc33 pm33 cd33 ct33 : Value} {od33 an33 : Option Addr} {sl33 : Array (Option Value)}
    (a33 : PySem.W.nsIn K mainGlobals "output_of" = some (some (.ref f33))) (l33 : K.lookup f33 = some ⟨oc33, od33, .func (PySem.W.fnOf "output_of" "output_of" (defArgs s_output_of) (defBody s_output_of) (defScope s_output_of) .none kV33 dc33 pm33 an33 cd33 ct33), sl33⟩) (c33 : PySem.W.codeIn K cd33 "output_of" = true) (k33 : PySem.W.keepIn K (.ref f33) = true)
    {f34 : Addr} {oc34 kV34 dc34 pm34 cd34 ct34 : Value} {od34 an34 : Option Addr} {sl34 : Array (Option Value)}
    (a34 : PySem.W.nsIn K mainGlobals "fields_of" = some (some (.ref f34))) (l34 : K.lookup f34 = some ⟨oc34, od34, .func (PySem.W.fnOf "fields_of" "fields_of" (defArgs s_fields_of) (defBody s_fields_of) (defScope s_fields_of) .none kV34 dc34 pm34 an34 cd34 ct34), sl34⟩) (c34 : PySem.W.codeIn K cd34 "fields_of" = true) (k34 : PySem.W.keepIn K (.ref f34) = true)
    {f35 : Addr} {oc35 kV35 dc35 pm35 cd35 ct35 : Value} {od35 an35 : Option Addr} {sl35 : Array (Option Value)}
    (a35 : PySem.W.nsIn K mainGlobals "check_plan" = some (some (.ref f35))) (l35 : K.lookup f35 = some ⟨oc35, od35, .func (PySem.W.fnOf "check_plan" "check_plan" (defArgs s_check_plan) (defBody s_check_plan) (defScope s_check_plan) .none kV35 dc35 pm35 an35 cd35 ct35), sl35⟩) (c35 : PySem.W.codeIn K cd35 "check_plan" = true) (k35 : PySem.W.keepIn K (.ref f35) = true)
    {f36 : Addr} {oc36 kV36 dc36 pm36 cd36 ct36 : Value} {od36 an36 : Option Addr} {sl36 : Array (Option Value)}
    (a36 : PySem.W.nsIn K mainGlobals "_law_told" = some (some (.ref f36))) (l36 : K.lookup f36 = some ⟨oc36, od36, .func (PySem.W.fnOf "_law_told" "_law_told" (defArgs s__law_told) (defBody s__law_told) (defScope s__law_told) .none kV36 dc36 pm36 an36 cd36 ct36), sl36⟩) (c36 : PySem.W.codeIn K cd36 "_law_told" = true) (k36 : PySem.W.keepIn K (.ref f36) = true)
    {f37 : Addr} {oc37 kV37 dc37 pm37 cd37 ct37 : Value} {od37 an37 : Option Addr} {sl37 : Array (Option Value)}
    (a37 : PySem.W.nsIn K mainGlobals "is_source" = some (some (.ref f37))) (l37 : K.lookup f37 = some ⟨oc37, od37, .func (PySem.W.fnOf "is_source" "is_source" (defArgs s_is_source) (defBody s_is_source) (defScope s_is_source) .none kV37 dc37 pm37 an37 cd37 ct37), sl37⟩) (c37 : PySem.W.codeIn K cd37 "is_source" = true) (k37 : PySem.W.keepIn K (.ref f37) = true)
    {f38 : Addr} {oc38 kV38 dc38 pm38 cd38 ct38 : Value} {od38 an38 : Option Addr} {sl38 : Array (Option Value)}
    (a38 : PySem.W.nsIn K mainGlobals "sources_of" = some (some (.ref f38))) (l38 : K.lookup f38 = some ⟨oc38, od38, .func (PySem.W.fnOf "sources_of" "sources_of" (defArgs s_sources_of) (defBody s_sources_of) (defScope s_sources_of) .none kV38 dc38 pm38 an38 cd38 ct38), sl38⟩) (c38 : PySem.W.codeIn K cd38 "sources_of" = true) (k38 : PySem.W.keepIn K (.ref f38) = true)
    {f39 : Addr} {oc39 kV39 dc39 pm39 cd39 ct39 : Value} {od39 an39 : Option Addr} {sl39 : Array (Option Value)}
    (a39 : PySem.W.nsIn K mainGlobals "law" = some (some (.ref f39))) (l39 : K.lookup f39 = some ⟨oc39, od39, .func (PySem.W.fnOf "law" "law" (defArgs s_law) (defBody s_law) (defScope s_law) .none kV39 dc39 pm39 an39 cd39 ct39), sl39⟩) (c39 : PySem.W.codeIn K cd39 "law" = true) (k39 : PySem.W.keepIn K (.ref f39) = true)
    (z0 : PySem.W.nsIn K mainGlobals "bool" = some none)
    (z1 : PySem.W.nsIn K mainGlobals "enumerate" = some none)
    (z2 : PySem.W.nsIn K mainGlobals "int" = some none)
    (z3 : PySem.W.nsIn K mainGlobals "isinstance" = some none)
    (z4 : PySem.W.nsIn K mainGlobals "len" = some none)
    (z5 : PySem.W.nsIn K mainGlobals "list" = some none)
    (z6 : PySem.W.nsIn K mainGlobals "range" = some none)
    (z7 : PySem.W.nsIn K mainGlobals "repr" = some none)
    (z8 : PySem.W.nsIn K mainGlobals "str" = some none)
    (z9 : PySem.W.nsIn K mainGlobals "tuple" = some none)
    {tk0 : Tok} (y0 : PySem.W.nsIn K mainGlobals "MOST_FIELDS" = some (some (.int 8 tk0)))
    {tk1 : Tok} (y1 : PySem.W.nsIn K mainGlobals "MOST_NODES" = some (some (.int 16 tk1)))
    {ut_TWO_SIDES : Addr} {uo_TWO_SIDES : Option Addr} {ui_TWO_SIDES : Array Value} {un_TWO_SIDES : Nat} {us_TWO_SIDES : Array (Option Value)} (ua_TWO_SIDES : PySem.W.nsIn K mainGlobals "TWO_SIDES" = some (some (.ref ut_TWO_SIDES))) (ul_TWO_SIDES : K.lookup ut_TWO_SIDES = some ⟨.type "tuple", uo_TWO_SIDES, .seq ui_TWO_SIDES un_TWO_SIDES, us_TWO_SIDES⟩) (uz_TWO_SIDES : ui_TWO_SIDES.size ≤ sizeLine) (uv_TWO_SIDES : Vals ((["union", "near", "asof", "join"] : List Str).map V.str) ui_TWO_SIDES.toList)
    {CT fI cdI ccI : Addr} {oI dcI pmI ctI cclI clI : Value} {odI anI cddI cldI : Option Addr} {slI ccsI cslI : Array (Option Value)} {vsI : Array Value} {fileI : Str} {tfI : Tok}
    {C_InvalidOperator N_InvalidOperator_ : Addr} {nm_InvalidOperator q_InvalidOperator : Str} {bs_InvalidOperator bm_InvalidOperator sub_InvalidOperator : List Value} {sn_InvalidOperator : List Str} {ab_InvalidOperator : Bool} {col_InvalidOperator : Option Bool} {dd_InvalidOperator : Option Addr} {m0_InvalidOperator m1_InvalidOperator m2_InvalidOperator m3_InvalidOperator m5_InvalidOperator : Option Value}
    (xgx_InvalidOperator : PySem.W.nsIn K mainGlobals "InvalidOperator" = some (some (.ref C_InvalidOperator)))
    (xxL_InvalidOperator : K.lookup C_InvalidOperator = some (excClassObj nm_InvalidOperator q_InvalidOperator C_InvalidOperator N_InvalidOperator_ bs_InvalidOperator bm_InvalidOperator true sn_InvalidOperator sub_InvalidOperator ab_InvalidOperator col_InvalidOperator dd_InvalidOperator m0_InvalidOperator m1_InvalidOperator m2_InvalidOperator m3_InvalidOperator m5_InvalidOperator "ValueError.__new__"))
    (xhb_InvalidOperator : PySem.HandSPX.refsVE bm_InvalidOperator = true)
    (xsa_InvalidOperator : PySem.W.findIn K (.ref C_InvalidOperator) "__setattr__" = some (some (.builtin "object.__setattr__")))
    (xga_InvalidOperator : PySem.W.findIn K (.ref C_InvalidOperator) "__getattribute__" = some (some (.builtin "BaseException.__getattribute__")))
    (xgg_InvalidOperator : PySem.W.findIn K (.ref C_InvalidOperator) "__getattr__" = some none)
    (xnb_InvalidOperator : PySem.W.findIn K (.ref C_InvalidOperator) "message" = some none)
    (xai_InvalidOperator : PySem.W.findIn K (.ref C_InvalidOperator) "__init__" = some (some (.ref fI)))
    (xkC_InvalidOperator : PySem.W.keepIn K (.ref C_InvalidOperator) = true)
    (xeC_InvalidOperator : PySem.W.subIn K (.ref C_InvalidOperator) (.type "BaseException") = some true)
    (xvC_InvalidOperator : PySem.W.subIn K (.ref C_InvalidOperator) (.type "ValueError") = some true)
    (xtC_InvalidOperator : PySem.W.typeIn K (.ref C_InvalidOperator) = some (.type "type"))
    (xhC_InvalidOperator : PySem.W.hasDictIn K C_InvalidOperator = true)
    (xiC_InvalidOperator : PySem.W.isClsIn K C_InvalidOperator = true)
    (xca_InvalidOperator : PySem.W.findIn K (.ref C_InvalidOperator) "__class__" = some (some (.builtin "object.__class__")))
    (xcm_InvalidOperator : PySem.W.mroIn K C_InvalidOperator (.type "object") = some true)
    {C_InvalidPlan N_InvalidPlan_ : Addr} {nm_InvalidPlan q_InvalidPlan : Str} {bs_InvalidPlan bm_InvalidPlan sub_InvalidPlan : List Value} {sn_InvalidPlan : List Str} {ab_InvalidPlan : Bool} {col_InvalidPlan : Option Bool} {dd_InvalidPlan : Option Addr} {m0_InvalidPlan m1_InvalidPlan m2_InvalidPlan m3_InvalidPlan m5_InvalidPlan : Option Value}
    (xgx_InvalidPlan : PySem.W.nsIn K mainGlobals "InvalidPlan" = some (some (.ref C_InvalidPlan)))
    (xxL_InvalidPlan : K.lookup C_InvalidPlan = some (excClassObj nm_InvalidPlan q_InvalidPlan C_InvalidPlan N_InvalidPlan_ bs_InvalidPlan bm_InvalidPlan true sn_InvalidPlan sub_InvalidPlan ab_InvalidPlan col_InvalidPlan dd_InvalidPlan m0_InvalidPlan m1_InvalidPlan m2_InvalidPlan m3_InvalidPlan m5_InvalidPlan "ValueError.__new__"))
    (xhb_InvalidPlan : PySem.HandSPX.refsVE bm_InvalidPlan = true)
    (xsa_InvalidPlan : PySem.W.findIn K (.ref C_InvalidPlan) "__setattr__" = some (some (.builtin "object.__setattr__")))
    (xga_InvalidPlan : PySem.W.findIn K (.ref C_InvalidPlan) "__getattribute__" = some (some (.builtin "BaseException.__getattribute__")))
    (xgg_InvalidPlan : PySem.W.findIn K (.ref C_InvalidPlan) "__getattr__" = some none)
    (xnb_InvalidPlan : PySem.W.findIn K (.ref C_InvalidPlan) "message" = some none)
    (xai_InvalidPlan : PySem.W.findIn K (.ref C_InvalidPlan) "__init__" = some (some (.ref fI)))
    (xkC_InvalidPlan : PySem.W.keepIn K (.ref C_InvalidPlan) = true)
    (xeC_InvalidPlan : PySem.W.subIn K (.ref C_InvalidPlan) (.type "BaseException") = some true)
    (xvC_InvalidPlan : PySem.W.subIn K (.ref C_InvalidPlan) (.type "ValueError") = some true)
    (xtC_InvalidPlan : PySem.W.typeIn K (.ref C_InvalidPlan) = some (.type "type"))
    (xhC_InvalidPlan : PySem.W.hasDictIn K C_InvalidPlan = true)
    (xiC_InvalidPlan : PySem.W.isClsIn K C_InvalidPlan = true)
    (xca_InvalidPlan : PySem.W.findIn K (.ref C_InvalidPlan) "__class__" = some (some (.builtin "object.__class__")))
    (xcm_InvalidPlan : PySem.W.mroIn K C_InvalidPlan (.type "object") = some true)
    {C_TideweirError N_TideweirError_ : Addr} {nm_TideweirError q_TideweirError : Str} {bs_TideweirError bm_TideweirError sub_TideweirError : List Value} {sn_TideweirError : List Str} {ab_TideweirError : Bool} {col_TideweirError : Option Bool} {dd_TideweirError : Option Addr} {m0_TideweirError m1_TideweirError m2_TideweirError m3_TideweirError m5_TideweirError : Option Value}
    (xgx_TideweirError : PySem.W.nsIn K mainGlobals "TideweirError" = some (some (.ref C_TideweirError)))
    (xxL_TideweirError : K.lookup C_TideweirError = some (excClassObj nm_TideweirError q_TideweirError C_TideweirError N_TideweirError_ bs_TideweirError bm_TideweirError true sn_TideweirError sub_TideweirError ab_TideweirError col_TideweirError dd_TideweirError m0_TideweirError m1_TideweirError m2_TideweirError m3_TideweirError m5_TideweirError "ValueError.__new__"))
    (xhb_TideweirError : PySem.HandSPX.refsVE bm_TideweirError = true)
    (xsa_TideweirError : PySem.W.findIn K (.ref C_TideweirError) "__setattr__" = some (some (.builtin "object.__setattr__")))
    (xga_TideweirError : PySem.W.findIn K (.ref C_TideweirError) "__getattribute__" = some (some (.builtin "BaseException.__getattribute__")))
    (xgg_TideweirError : PySem.W.findIn K (.ref C_TideweirError) "__getattr__" = some none)
    (xnb_TideweirError : PySem.W.findIn K (.ref C_TideweirError) "message" = some none)
    (xai_TideweirError : PySem.W.findIn K (.ref C_TideweirError) "__init__" = some (some (.ref fI)))
    (xkC_TideweirError : PySem.W.keepIn K (.ref C_TideweirError) = true)
    (xeC_TideweirError : PySem.W.subIn K (.ref C_TideweirError) (.type "BaseException") = some true)
    (xvC_TideweirError : PySem.W.subIn K (.ref C_TideweirError) (.type "ValueError") = some true)
    (xtC_TideweirError : PySem.W.typeIn K (.ref C_TideweirError) = some (.type "type"))
    (xhC_TideweirError : PySem.W.hasDictIn K C_TideweirError = true)
    (xiC_TideweirError : PySem.W.isClsIn K C_TideweirError = true)
    (xca_TideweirError : PySem.W.findIn K (.ref C_TideweirError) "__class__" = some (some (.builtin "object.__class__")))
    (xcm_TideweirError : PySem.W.mroIn K C_TideweirError (.type "object") = some true)
    (xlI : K.lookup fI = some ⟨oI, odI, .func (PySem.W.ksFn "__init__" "TideweirError.__init__" (Tw.iA ⟨4, 17, 4, 21⟩ ⟨4, 23, 4, 30⟩) (Tw.iB ⟨5, 8, 5, 13⟩ ⟨5, 8, 5, 15⟩ ⟨5, 8, 5, 24⟩ ⟨5, 25, 5, 32⟩ ⟨5, 8, 5, 33⟩ ⟨5, 8, 5, 33⟩ ⟨6, 8, 6, 12⟩ ⟨6, 8, 6, 20⟩ ⟨6, 23, 6, 30⟩ ⟨6, 8, 6, 30⟩) Tw.iS .none .none dcI pmI anI (.ref cdI) ctI ccI), slI⟩)
    (xcI : PySem.W.codeIn K (.ref cdI) "TideweirError.__init__" = true)
    (xlc : K.lookup cdI = some ⟨cclI, cddI, .fields vsI, ccsI⟩)
    (xhv : vsI[2]? = some (.str fileI tfI))
    (xhf : ((l.prog.main.file : Str) == fileI) = true)
    (xlo : K.lookup ccI = some ⟨clI, cldI, .cell (some (.ref CT)), cslI⟩)
    (xiT : PySem.W.isClsIn K CT = true)
    (xty : PySem.W.typeIn K (.ref fI) = some (.type "function"))
    (xnu : PySem.W.nsIn K mainGlobals "super" = some none)
    (xop : PySem.W.nsIn K PySem.cStatics "thirdparty.any" = some none)
    (xtp : (l.prog.main.scope.names.lookup ("super" : Str)).isSome = false)
    (xcn : PySem.W.specialIn K (.builtin "object.__class__") "__get__" = some (some (.builtin "getset_descriptor.__get__")))
    (xct : PySem.W.takesIn K (.builtin "object.__class__") = some true)
    (xsT_InvalidOperator : PySem.W.mroIn K C_InvalidOperator (.ref CT) = some true)
    (xku_InvalidOperator : PySem.W.ks_superIn K C_InvalidOperator CT "__init__" = some (some (.builtin "ValueError.__init__")))
    (xsT_InvalidPlan : PySem.W.mroIn K C_InvalidPlan (.ref CT) = some true)
    (xku_InvalidPlan : PySem.W.ks_superIn K C_InvalidPlan CT "__init__" = some (some (.builtin "ValueError.__init__")))
    (xsT_TideweirError : PySem.W.mroIn K C_TideweirError (.ref CT) = some true)
    (xku_TideweirError : PySem.W.ks_superIn K C_TideweirError CT "__init__" = some (some (.builtin "ValueError.__init__")))
    (xe_InvalidOperator_InvalidOperator : PySem.W.subIn K (.ref C_InvalidOperator) (.ref C_InvalidOperator) = some true)
    (xe_InvalidPlan_InvalidPlan : PySem.W.subIn K (.ref C_InvalidPlan) (.ref C_InvalidPlan) = some true)
    (xk_InvalidPlan_TideweirError : PySem.W.kitOne K (.ref C_InvalidPlan) (.ref C_TideweirError) = some true)
    : ∃ fd : FuncData, Fun K "law" "law" s_law fa fd ∧ (∀ (s : Shared) (v : Value), BindsTo s fd ⟨[v], []⟩ [("script", v)]) ∧ ∀ (base : Heap) (cdv : Value) (s : Shared) (H : Hp) (E : XK), K.In base → base.Ns mainGlobals mg → DSs (cxOf CX0 l.prog w K mg base N_law "law" (defScope s_law) fa cdv callerA [] s H E).nox (defBody s_law) g_law := by
  have e := hfa.symm.trans (PySem.W.mg_of X G a39)
  cases e
  let T : Txt l.prog K mg := ⟨_, _, fun_mk (st := s__law_r_fields) l0 c0 k0, PySem.W.mg_of X G a0, _, _, fun_mk (st := s__law_s_fields) l1 c1 k1, PySem.W.mg_of X G a1, _, _, fun_mk (st := s__law_broken) l2 c2 k2, PySem.W.mg_of X G a2, _, _, fun_mk (st := s__law_columns) l3 c3 k3, PySem.W.mg_of X G a3, _, _, fun_mk (st := s__law_pick) l4 c4 k4, PySem.W.mg_of X G a4, _, _, fun_mk (st := s__law_aggs) l5 c5 k5, PySem.W.mg_of X G a5, _, _, fun_mk (st := s__law_keys) l6 c6 k6, PySem.W.mg_of X G a6, _, _, fun_mk (st := s__law_map) l7 c7 k7, PySem.W.mg_of X G a7, _, _, fun_mk (st := s__law_on) l8 c8 k8, PySem.W.mg_of X G a8, _, _, fun_mk (st := s__law_where) l9 c9 k9, PySem.W.mg_of X G a9, _, _, fun_mk (st := s__law_operator) l10 c10 k10, PySem.W.mg_of X G a10, _, _, fun_mk (st := s_column_index) l11 c11 k11, PySem.W.mg_of X G a11, _, _, fun_mk (st := s_type_in) l12 c12 k12, PySem.W.mg_of X G a12, _, _, fun_mk (st := s_check_columns) l13 c13 k13, PySem.W.mg_of X G a13, _, _, fun_mk (st := s_check_kinds) l14 c14 k14, PySem.W.mg_of X G a14, _, _, fun_mk (st := s_agree) l15 c15 k15, PySem.W.mg_of X G a15, _, _, fun_mk (st := s_differ) l16 c16 k16, PySem.W.mg_of X G a16, _, _, fun_mk (st := s_check_pairs) l17 c17 k17, PySem.W.mg_of X G a17, _, _, fun_mk (st := s_parts_of) l18 c18 k18, PySem.W.mg_of X G a18, _, _, fun_mk (st := s_want) l19 c19 k19, PySem.W.mg_of X G a19, _, _, fun_mk (st := s_type_of_binary) l20 c20 k20, PySem.W.mg_of X G a20, _, _, fun_mk (st := s_type_of_value) l21 c21 k21, PySem.W.mg_of X G a21, _, _, fun_mk (st := s_type_of) l22 c22 k22, PySem.W.mg_of X G a22, _, _, fun_mk (st := s_mapped) l23 c23 k23, PySem.W.mg_of X G a23, _, _, fun_mk (st := s_aggregate_type) l24 c24 k24, PySem.W.mg_of X G a24, _, _, fun_mk (st := s_with_aggregates) l25 c25 k25, PySem.W.mg_of X G a25, _, _, fun_mk (st := s_output_fields) l26 c26 k26, PySem.W.mg_of X G a26, _, _, fun_mk (st := s_output_kind) l27 c27 k27, PySem.W.mg_of X G a27, _, _, fun_mk (st := s_check_operator) l28 c28 k28, PySem.W.mg_of X G a28, _, _, fun_mk (st := s_sides_of) l29 c29 k29, PySem.W.mg_of X G a29, _, _, fun_mk (st := s__law_drawn_plan) l30 c30 k30, PySem.W.mg_of X G a30, _, _, fun_mk (st := s__law_rows) l31 c31 k31, PySem.W.mg_of X G a31, _, _, fun_mk (st := s_check_inputs) l32 c32 k32, PySem.W.mg_of X G a32, _, _, fun_mk (st := s_output_of) l33 c33 k33, PySem.W.mg_of X G a33, _, _, fun_mk (st := s_fields_of) l34 c34 k34, PySem.W.mg_of X G a34, _, _, fun_mk (st := s_check_plan) l35 c35 k35, PySem.W.mg_of X G a35, _, _, fun_mk (st := s__law_told) l36 c36 k36, PySem.W.mg_of X G a36, _, _, fun_mk (st := s_is_source) l37 c37 k37, PySem.W.mg_of X G a37, _, _, fun_mk (st := s_sources_of) l38 c38 k38, PySem.W.mg_of X G a38, _, _, fun_mk (st := s_law) l39 c39 k39, PySem.W.mg_of X G a39, PySem.W.mg_none_of X G z0, PySem.W.mg_none_of X G z1, PySem.W.mg_none_of X G z2, PySem.W.mg_none_of X G z3, PySem.W.mg_none_of X G z4, PySem.W.mg_none_of X G z5, PySem.W.mg_none_of X G z6, PySem.W.mg_none_of X G z7, PySem.W.mg_none_of X G z8, PySem.W.mg_none_of X G z9, ⟨_, PySem.W.mg_of X G y0⟩, ⟨_, PySem.W.mg_of X G y1⟩, gtup_mk (PySem.W.mg_of X G ua_TWO_SIDES) ul_TWO_SIDES uz_TWO_SIDES uv_TWO_SIDES, CT, fI, C_InvalidOperator, C_InvalidPlan, C_TideweirError, ⟨PySem.W.mg_of X G xgx_InvalidOperator, ⟨_, _, _, _, _, _, _, _, _, _, _, _, _, _, _, xxL_InvalidOperator, xhb_InvalidOperator⟩, xsa_InvalidOperator, xga_InvalidOperator, xgg_InvalidOperator, xnb_InvalidOperator, xai_InvalidOperator, xty, xkC_InvalidOperator, xeC_InvalidOperator, xvC_InvalidOperator, xtC_InvalidOperator, xhC_InvalidOperator, xiC_InvalidOperator, xca_InvalidOperator, xcn, xct, xcm_InvalidOperator, ⟨_, _, _, _, _, _, _, _, _, _, _, _, _, _, _, _, _, _, _, _, _, xlI, rfl, xcI, ⟨_, _, _, _, _, _, xlc, xhv, xhf⟩, _, _, _, xlo⟩, Option.isSome_iff_exists.mp xiT, xsT_InvalidOperator, PySem.W.mg_none_of X G xnu, xop, xku_InvalidOperator, xtp⟩, ⟨PySem.W.mg_of X G xgx_InvalidPlan, ⟨_, _, _, _, _, _, _, _, _, _, _, _, _, _, _, xxL_InvalidPlan, xhb_InvalidPlan⟩, xsa_InvalidPlan, xga_InvalidPlan, xgg_InvalidPlan, xnb_InvalidPlan, xai_InvalidPlan, xty, xkC_InvalidPlan, xeC_InvalidPlan, xvC_InvalidPlan, xtC_InvalidPlan, xhC_InvalidPlan, xiC_InvalidPlan, xca_InvalidPlan, xcn, xct, xcm_InvalidPlan, ⟨_, _, _, _, _, _, _, _, _, _, _, _, _, _, _, _, _, _, _, _, _, xlI, rfl, xcI, ⟨_, _, _, _, _, _, xlc, xhv, xhf⟩, _, _, _, xlo⟩, Option.isSome_iff_exists.mp xiT, xsT_InvalidPlan, PySem.W.mg_none_of X G xnu, xop, xku_InvalidPlan, xtp⟩, ⟨PySem.W.mg_of X G xgx_TideweirError, ⟨_, _, _, _, _, _, _, _, _, _, _, _, _, _, _, xxL_TideweirError, xhb_TideweirError⟩, xsa_TideweirError, xga_TideweirError, xgg_TideweirError, xnb_TideweirError, xai_TideweirError, xty, xkC_TideweirError, xeC_TideweirError, xvC_TideweirError, xtC_TideweirError, xhC_TideweirError, xiC_TideweirError, xca_TideweirError, xcn, xct, xcm_TideweirError, ⟨_, _, _, _, _, _, _, _, _, _, _, _, _, _, _, _, _, _, _, _, _, xlI, rfl, xcI, ⟨_, _, _, _, _, _, xlc, xhv, xhf⟩, _, _, _, xlo⟩, Option.isSome_iff_exists.mp xiT, xsT_TideweirError, PySem.W.mg_none_of X G xnu, xop, xku_TideweirError, xtp⟩, PySem.W.exm_ref xeC_InvalidOperator xhC_InvalidOperator xtC_InvalidOperator xe_InvalidOperator_InvalidOperator, PySem.W.exm_ref xeC_InvalidPlan xhC_InvalidPlan xtC_InvalidPlan xe_InvalidPlan_InvalidPlan, xk_InvalidPlan_TideweirError⟩
  exact ⟨T.d_law, T.F_law, fun s v => .of_eq rfl, fun base cdv s H E _ _ => ok_law T cdv s H E⟩
end Lw
open PySem PySem.W PyProof.Rows
set_option maxHeartbeats 0 in
theorem PySem.Challenge.cw_tideweir_k41_plans_that_are_refused_holds : PySem.Challenge.rw_tideweir_k41_plans_that_are_refused.Holds := by
  w_on; o_law; k_head; (case hw => w_witness2)
  k_fill
  refine Dn.walk_body (l := PySem.Challenge.rw_tideweir_k41_plans_that_are_refused) (k := 17) (st := Lw.s_law) (N := Lw.N_law) (g := Lw.g_law) rfl rfl ⟨rfl, by decide, by decide⟩ (fun w h Y => PySem.W.kIn_of Y) Lw.sc_law ?F (fun ns h => Lw.law_true ns h)
  case F =>
    intro w mg fa h KX G hmg
    refine' Lw.all_mk KX G hmg ?a0 ?l0 ?c0 ?k0 ?a1 ?l1 ?c1 ?k1 ?a2 ?l2 ?c2 ?k2 ?a3 ?l3 ?c3 ?k3 ?a4 ?l4 ?c4 ?k4 ?a5 ?l5 ?c5 ?k5 ?a6 ?l6 ?c6 ?k6 ?a7 ?l7 ?c7 ?k7 ?a8 ?l8 ?c8 ?k8 ?a9 ?l9 ?c9 ?k9 ?a10 ?l10 ?c10 ?k10 ?a11 ?l11 ?c11 ?k11 ?a12 ?l12 ?c12 ?k12 ?a13 ?l13 ?c13 ?k13 ?a14 ?l14 ?c14 ?k14 ?a15 ?l15 ?c15 ?k15 ?a16 ?l16 ?c16 ?k16 ?a17 ?l17 ?c17 ?k17 ?a18 ?l18 ?c18 ?k18 ?a19 ?l19 ?c19 ?k19 ?a20 ?l20 ?c20 ?k20 ?a21 ?l21 ?c21 ?k21 ?a22 ?l22 ?c22 ?k22 ?a23 ?l23 ?c23 ?k23 ?a24 ?l24 ?c24 ?k24 ?a25 ?l25 ?c25 ?k25 ?a26 ?l26 ?c26 ?k26 ?a27 ?l27 ?c27 ?k27 ?a28 ?l28 ?c28 ?k28 ?a29 ?l29 ?c29 ?k29 ?a30 ?l30 ?c30 ?k30 ?a31 ?l31 ?c31 ?k31 ?a32 ?l32 ?c32 ?k32 ?a33 ?l33 ?c33 ?k33 ?a34 ?l34 ?c34 ?k34 ?a35 ?l35 ?c35 ?k35 ?a36 ?l36 ?c36 ?k36 ?a37 ?l37 ?c37 ?k37 ?a38 ?l38 ?c38 ?k38 ?a39 ?l39 ?c39 ?k39 ?z0 ?z1 ?z2 ?z3 ?z4 ?z5 ?z6 ?z7 ?z8 ?z9 ?y0 ?y1 ?ua_TWO_SIDES ?ul_TWO_SIDES ?uz_TWO_SIDES ?uv_TWO_SIDES ?xgx_InvalidOperator ?xxL_InvalidOperator ?xhb_InvalidOperator ?xsa_InvalidOperator ?xga_InvalidOperator ?xgg_InvalidOperator ?xnb_InvalidOperator ?xai_InvalidOperator ?xkC_InvalidOperator ?xeC_InvalidOperator ?xvC_InvalidOperator ?xtC_InvalidOperator ?xhC_InvalidOperator ?xiC_InvalidOperator ?xca_InvalidOperator ?xcm_InvalidOperator ?xgx_InvalidPlan ?xxL_InvalidPlan ?xhb_InvalidPlan ?xsa_InvalidPlan ?xga_InvalidPlan ?xgg_InvalidPlan ?xnb_InvalidPlan ?xai_InvalidPlan ?xkC_InvalidPlan ?xeC_InvalidPlan ?xvC_InvalidPlan ?xtC_InvalidPlan ?xhC_InvalidPlan ?xiC_InvalidPlan ?xca_InvalidPlan ?xcm_InvalidPlan ?xgx_TideweirError ?xxL_TideweirError ?xhb_TideweirError ?xsa_TideweirError ?xga_TideweirError ?xgg_TideweirError ?xnb_TideweirError ?xai_TideweirError ?xkC_TideweirError ?xeC_TideweirError ?xvC_TideweirError ?xtC_TideweirError ?xhC_TideweirError ?xiC_TideweirError ?xca_TideweirError ?xcm_TideweirError ?xlI ?xcI ?xlc ?xhv ?xhf ?xlo ?xiT ?xty ?xnu ?xop ?xtp ?xcn ?xct ?xsT_InvalidOperator ?xku_InvalidOperator ?xsT_InvalidPlan ?xku_InvalidPlan ?xsT_TideweirError ?xku_TideweirError ?xe_InvalidOperator_InvalidOperator ?xe_InvalidPlan_InvalidPlan ?xk_InvalidPlan_TideweirError
    (case a0 => k_is); (case l0 => k_is); (case c0 => k_is); (case k0 => k_is); (case a1 => k_is); (case l1 => k_is); (case c1 => k_is); (case k1 => k_is); (case a2 => k_is); (case l2 => k_is); (case c2 => k_is); (case k2 => k_is); (case a3 => k_is); (case l3 => k_is); (case c3 => k_is); (case k3 => k_is); (case a4 => k_is); (case l4 => k_is); (case c4 => k_is); (case k4 => k_is); (case a5 => k_is); (case l5 => k_is); (case c5 => k_is); (case k5 => k_is); (case a6 => k_is); (case l6 => k_is); (case c6 => k_is); (case k6 => k_is); (case a7 => k_is); (case l7 => k_is); (case c7 => k_is); (case k7 => k_is); (case a8 => k_is); (case l8 => k_is); (case c8 => k_is); (case k8 => k_is); (case a9 => k_is); (case l9 => k_is); (case c9 => k_is); (case k9 => k_is); (case a10 => k_is); (case l10 => k_is); (case c10 => k_is); (case k10 => k_is); (case a11 => k_is); (case l11 => k_is); (case c11 => k_is); (case k11 => k_is); (case a12 => k_is); (case l12 => k_is); (case c12 => k_is); (case k12 => k_is); (case a13 => k_is); (case l13 => k_is); (case c13 => k_is); (case k13 => k_is); (case a14 => k_is); (case l14 => k_is); (case c14 => k_is); (case k14 => k_is); (case a15 => k_is); (case l15 => k_is); (case c15 => k_is); (case k15 => k_is); (case a16 => k_is); (case l16 => k_is); (case c16 => k_is); (case k16 => k_is); (case a17 => k_is); (case l17 => k_is); (case c17 => k_is); (case k17 => k_is); (case a18 => k_is); (case l18 => k_is); (case c18 => k_is); (case k18 => k_is); (case a19 => k_is); (case l19 => k_is); (case c19 => k_is); (case k19 => k_is); (case a20 => k_is); (case l20 => k_is); (case c20 => k_is); (case k20 => k_is); (case a21 => k_is); (case l21 => k_is); (case c21 => k_is); (case k21 => k_is); (case a22 => k_is); (case l22 => k_is); (case c22 => k_is); (case k22 => k_is); (case a23 => k_is); (case l23 => k_is); (case c23 => k_is); (case k23 => k_is); (case a24 => k_is); (case l24 => k_is); (case c24 => k_is); (case k24 => k_is); (case a25 => k_is); (case l25 => k_is); (case c25 => k_is); (case k25 => k_is); (case a26 => k_is); (case l26 => k_is); (case c26 => k_is); (case k26 => k_is); (case a27 => k_is); (case l27 => k_is); (case c27 => k_is); (case k27 => k_is); (case a28 => k_is); (case l28 => k_is); (case c28 => k_is); (case k28 => k_is); (case a29 => k_is); (case l29 => k_is); (case c29 => k_is); (case k29 => k_is); (case a30 => k_is); (case l30 => k_is); (case c30 => k_is); (case k30 => k_is); (case a31 => k_is); (case l31 => k_is); (case c31 => k_is); (case k31 => k_is); (case a32 => k_is); (case l32 => k_is); (case c32 => k_is); (case k32 => k_is); (case a33 => k_is); (case l33 => k_is); (case c33 => k_is); (case k33 => k_is); (case a34 => k_is); (case l34 => k_is); (case c34 => k_is); (case k34 => k_is); (case a35 => k_is); (case l35 => k_is); (case c35 => k_is); (case k35 => k_is); (case a36 => k_is); (case l36 => k_is); (case c36 => k_is); (case k36 => k_is); (case a37 => k_is); (case l37 => k_is); (case c37 => k_is); (case k37 => k_is); (case a38 => k_is); (case l38 => k_is); (case c38 => k_is); (case k38 => k_is); (case a39 => k_is); (case l39 => k_is); (case c39 => k_is); (case k39 => k_is); (case z0 => k_is); (case z1 => k_is); (case z2 => k_is); (case z3 => k_is); (case z4 => k_is); (case z5 => k_is); (case z6 => k_is); (case z7 => k_is); (case z8 => k_is); (case z9 => k_is); (case y0 => k_is); (case y1 => k_is); (case ua_TWO_SIDES => k_is); (case ul_TWO_SIDES => k_is); (case uz_TWO_SIDES => first | decide | decide +kernel); (case uv_TWO_SIDES => exact (.cons ⟨_, rfl⟩ (.cons ⟨_, rfl⟩ (.cons ⟨_, rfl⟩ (.cons ⟨_, rfl⟩ .nil))))); (case xgx_InvalidOperator => k_is); (case xxL_InvalidOperator => k_is); (case xhb_InvalidOperator => first | rfl | decide +kernel); (case xsa_InvalidOperator => k_is); (case xga_InvalidOperator => k_is); (case xgg_InvalidOperator => k_is); (case xnb_InvalidOperator => k_is); (case xai_InvalidOperator => k_is); (case xkC_InvalidOperator => k_is); (case xeC_InvalidOperator => k_is); (case xvC_InvalidOperator => k_is); (case xtC_InvalidOperator => k_is); (case xhC_InvalidOperator => k_is); (case xiC_InvalidOperator => k_is); (case xca_InvalidOperator => k_is); (case xcm_InvalidOperator => k_is); (case xgx_InvalidPlan => k_is); (case xxL_InvalidPlan => k_is); (case xhb_InvalidPlan => first | rfl | decide +kernel); (case xsa_InvalidPlan => k_is); (case xga_InvalidPlan => k_is); (case xgg_InvalidPlan => k_is); (case xnb_InvalidPlan => k_is); (case xai_InvalidPlan => k_is); (case xkC_InvalidPlan => k_is); (case xeC_InvalidPlan => k_is); (case xvC_InvalidPlan => k_is); (case xtC_InvalidPlan => k_is); (case xhC_InvalidPlan => k_is); (case xiC_InvalidPlan => k_is); (case xca_InvalidPlan => k_is); (case xcm_InvalidPlan => k_is); (case xgx_TideweirError => k_is); (case xxL_TideweirError => k_is); (case xhb_TideweirError => first | rfl | decide +kernel); (case xsa_TideweirError => k_is); (case xga_TideweirError => k_is); (case xgg_TideweirError => k_is); (case xnb_TideweirError => k_is); (case xai_TideweirError => k_is); (case xkC_TideweirError => k_is); (case xeC_TideweirError => k_is); (case xvC_TideweirError => k_is); (case xtC_TideweirError => k_is); (case xhC_TideweirError => k_is); (case xiC_TideweirError => k_is); (case xca_TideweirError => k_is); (case xcm_TideweirError => k_is); (case xlI => k_is); (case xcI => k_is); (case xlc => k_is); (case xhv => first | rfl | kernel_rfl); (case xhf => first | rfl | decide +kernel); (case xlo => k_is); (case xiT => k_is); (case xty => k_is); (case xnu => k_is); (case xop => k_is); (case xtp => first | rfl | decide +kernel); (case xcn => k_is); (case xct => k_is); (case xsT_InvalidOperator => k_is); (case xku_InvalidOperator => ks_is); (case xsT_InvalidPlan => k_is); (case xku_InvalidPlan => ks_is); (case xsT_TideweirError => k_is); (case xku_TideweirError => ks_is); (case xe_InvalidOperator_InvalidOperator => first | rfl | k_is); (case xe_InvalidPlan_InvalidPlan => first | rfl | k_is); (case xk_InvalidPlan_TideweirError => kit_is)
