import PyProof.Rows.All
import Wide.All
import OpenK.AllK
import Wide.FinOn
import KE.SortData
import HandS.ForMost
import HandS.Wide
import HandS.IsInst
import HandS.TupAny
import KE.KDictKeyed
import KE.LtData
import HandS.TupLe
import PyProof.P3Eq
import HandS.Deep
import KE.GoesEnum
import HandS.Iter
import HandS.Dict
import HandS.SortInts
import HandS.Ends
import PyProof.ReprRoads
import PyProof.ReprLen
import HandS.Rev
import KE.KDictSum
import KE.KDictCopyH
import HandS.Style
import HandS.TryOnly
import HandS.GenList
import HandS.SetBool
import HandS.Strs
import PyProof.FString5
import HandS.DictEq
import KE.KExcSuper
import HandS.ForExc
import HandS.TryMany
import HandS.ExcInit
import HandS.ExcOwn
import HandS.ExcSuper
import HandS.ExcIs
import KE.KExcIs
import KE.KIsAll
import HandS.Zip0
import HandS.FStr
import KE.KEqDict
import PySem.Challenge.RW_tideweir_k83_places_of_events
set_option Elab.async false
set_option linter.all false
set_option maxRecDepth 100000
set_option maxHeartbeats 1000000
namespace Dn
open PySem PySem.Spec PyProof.Rows L2
abbrev D := PyData
/-- what is written, the program, the world -/
structure Kx where
  K : PySem.W.Frag
  P : Program
  w : World
instance : Coe Kx PySem.W.Frag := ⟨Kx.K⟩
abbrev cxK (X : Cx) : Kx := ⟨X.K, X.prog, X.w⟩
/-- what a slot holds: a datum that stands for good, or a list of one's own (fixed: the def's parameter) -/
inductive Cell where
  | val (d : D)
  | own (fixed : Bool) (d : D)
abbrev Env := List (Option Cell)
abbrev Md (α : Type) := Env → Option (α × Env)
/-- a key of a dict as a datum -/
def keyD : Key → D
  | .inl i => .int i
  | .inr x => .str x
mutual
/-- a datum as a key within tuples -/
def nkOf : D → Option NestedKey
  | .none => some .none
  | .int i => some (.num i)
  | .str x => some (.text x)
  | .tuple xs => (nkAll xs).bind fun ks => some (.tup ks)
  | _ => none
def nkAll : List D → Option (List NestedKey)
  | [] => some []
  | x :: xs => (nkOf x).bind fun k => (nkAll xs).bind fun ks => some (k :: ks)
end
/-- .. of a depth that a dict's key may have -/
def nkD (d : D) : Option NestedKey := (nkOf d).bind fun k => if k.depth ≤ 8 ∧ d.canLay0 = true then some k else none
/-- a dict whose keys are tuples: its one object -/
def dicO (K : Kx) (a : Addr) (xs : List (NestedKey × Addr × V)) : HO := .ext fun h => (a == sysModules) = false ∧ ∃ ys : List (NestedKey × Addr × Value), Paired (fun (p : NestedKey × Addr × V) (q : NestedKey × Addr × Value) => p.1 = q.1 ∧ p.2.1 = q.2.1 ∧ RelV p.2.2 q.2.2) xs ys ∧
  ∃ o es ep, h.get? a = some o ∧ o.ExactDict ∧ o.data = .dict es ep ∧ es.toList = ys.map (entryOfKey (nestedKind K.P K.w)) ∧ (ys.map (·.1)).Nodup
mutual
/-- v stands for the datum d -/
inductive Rp (K : Kx) (H : Hp) : V → D → Prop
  | non : Rp K H .non .none
  | bl (b : Bool) : Rp K H (.bl b) (.bool b)
  | int (i : Int) : Rp K H (.int i) (.int i)
  | str (x : Str) : Rp K H (.str x) (.str x)
  | lst {a : Addr} {vs : List V} {es : List D} (hs : SqL K H a vs) (hr : RpAll K H vs es) : Rp K H (.ref a) (.list es)
  | tup {a : Addr} {vs : List V} {es : List D} (hs : SqT K H a vs) (hr : RpAll K H vs es) : Rp K H (.ref a) (.tuple es)
  | dic {a : Addr} {ob : Obj} {ks : List (Key × V)} {es : List (D × D)} (hs : H a = some (.frz ob (.dK ks))) (hr : RpKV K H ks es) (hne : es ≠ []) : Rp K H (.ref a) (.dict es)
  | dicE {a : Addr} {ob : Obj} (hs : H a = some (.frz ob (.dK []))) : Rp K H (.ref a) (.dict [(.none, .none)])
  | dicN {a : Addr} {xs : List (NestedKey × Addr × V)} {es : List (D × D)} (hs : H a = some (dicO K a xs)) (hr : RpN K H xs es) : Rp K H (.ref a) (.dict es)
inductive RpAll (K : Kx) (H : Hp) : List V → List D → Prop
  | nil : RpAll K H [] []
  | cons {v : V} {vs : List V} {d : D} {es : List D} (h1 : Rp K H v d) (h2 : RpAll K H vs es) : RpAll K H (v :: vs) (d :: es)
inductive RpKV (K : Kx) (H : Hp) : List (Key × V) → List (D × D) → Prop
  | nil : RpKV K H [] []
  | cons {k : Key} {v : V} {ks : List (Key × V)} {d : D} {es : List (D × D)} (h1 : Rp K H v d) (h2 : RpKV K H ks es) : RpKV K H ((k, v) :: ks) ((keyD k, d) :: es)
inductive RpN (K : Kx) (H : Hp) : List (NestedKey × Addr × V) → List (D × D) → Prop
  | nil : RpN K H [] []
  | cons {k : NestedKey} {ka : Addr} {x : V} {dk dv : D} {xs : List (NestedKey × Addr × V)} {es : List (D × D)} (hk : nkD dk = some k) (h1 : Rp K H (.ref ka) dk) (h2 : Rp K H x dv) (h3 : RpN K H xs es) : RpN K H ((k, ka, x) :: xs) ((dk, dv) :: es)
end
mutual
theorem rp_dp {K : Kx} {H : Hp} : ∀ {d : D} {v : V}, Rp K H v d → d.canLay0 = true → Dp K H v d
  | .none, _, h, _ => by cases h; exact .non
  | .bool _, _, h, _ => by cases h; exact .bl _
  | .int _, _, h, _ => by cases h; exact .int _
  | .str _, _, h, _ => by cases h; exact .str _
  | .list es, _, h, c => by
    cases h with
    | lst hs hr => exact .lst hs (rpAll_dp hr (by simpa [PyData.canLay0] using c))
  | .tuple es, _, h, c => by
    cases h with
    | tup hs hr => exact .tup hs (rpAll_dp hr (by simpa [PyData.canLay0] using c))
  | .dict _, _, _, c => by simp [PyData.canLay0] at c
theorem rpAll_dp {K : Kx} {H : Hp} : ∀ {ds : List D} {vs : List V}, RpAll K H vs ds → PyData.canLayAll0 ds = true → DpAll K H vs ds
  | [], _, h, _ => by cases h; exact .nil
  | d :: ds, _, h, c => by
    have c' : d.canLay0 = true ∧ PyData.canLayAll0 ds = true := by simpa [PyData.canLayAll0] using c
    cases h with
    | cons h1 h2 => exact .cons (rp_dp h1 c'.1) (rpAll_dp h2 c'.2)
end
theorem seqT_same {K : Kx} {H H' : Hp} {a : Addr} {xs : List V} (e : Same H H') (h : SqT K H a xs) : SqT K H' a xs := by
  rcases h with (h | ⟨o, h⟩) | h
  · exact .inl (.inl (e _ _ h))
  · exact .inl (.inr ⟨o, e _ _ h⟩)
  · exact .inr h
mutual
theorem dp_mono {K : Kx} {H H' : Hp} (e : Same H H') : ∀ (d : D) (v : V), Rp K H v d → Rp K H' v d
  | .none, _, h => by cases h; exact .non
  | .bool _, _, h => by cases h; exact .bl _
  | .int _, _, h => by cases h; exact .int _
  | .str _, _, h => by cases h; exact .str _
  | .list ds, _, h => by
    cases h with
    | lst hs ha => exact .lst (e.seq hs) (dpAll_mono e ds _ ha)
  | .tuple ds, _, h => by
    cases h with
    | tup hs ha => exact .tup (seqT_same e hs) (dpAll_mono e ds _ ha)
  | .dict es, _, h => by
    cases h with
    | dic hs hr hne => exact .dic (e _ _ hs) (dpKV_mono e es _ hr) hne
    | dicE hs => exact .dicE (e _ _ hs)
    | dicN hs hr => exact .dicN (e _ _ hs) (dpN_mono e es _ hr)
theorem dpAll_mono {K : Kx} {H H' : Hp} (e : Same H H') : ∀ (ds : List D) (vs : List V), RpAll K H vs ds → RpAll K H' vs ds
  | [], _, h => by cases h; exact .nil
  | d :: ds, _, h => by
    cases h with
    | cons h1 h2 => exact .cons (dp_mono e d _ h1) (dpAll_mono e ds _ h2)
theorem dpKV_mono {K : Kx} {H H' : Hp} (e : Same H H') : ∀ (ds : List (D × D)) (vs : List (Key × V)), RpKV K H vs ds → RpKV K H' vs ds
  | [], _, h => by cases h; exact .nil
  | (k, d) :: ds, _, h => by
    cases h with
    | cons h1 h2 => exact .cons (dp_mono e d _ h1) (dpKV_mono e ds _ h2)
theorem dpN_mono {K : Kx} {H H' : Hp} (e : Same H H') : ∀ (ds : List (D × D)) (xs : List (NestedKey × Addr × V)), RpN K H xs ds → RpN K H' xs ds
  | [], _, h => by cases h; exact .nil
  | (k, d) :: ds, _, h => by
    cases h with
    | cons h0 h1 h2 h3 => exact .cons h0 (dp_mono e k _ h1) (dp_mono e d _ h2) (dpN_mono e ds _ h3)
end
theorem da_len {K : Kx} {H : Hp} : ∀ {vs : List V} {ds : List D}, RpAll K H vs ds → vs.length = ds.length
  | _, _, .nil => rfl
  | _, _, .cons _ t => congrArg (· + 1) (da_len t)
theorem da_at {K : Kx} {H : Hp} : ∀ {vs : List V} {ds : List D} {i : Nat} {d : D}, RpAll K H vs ds → ds[i]? = some d → ∃ v, vs[i]? = some v ∧ Rp K H v d
  | _, _, i, v, .nil, e => by simp at e
  | _, _, 0, v, .cons h _, e => by
    have q := Option.some.inj e
    subst q
    exact ⟨_, rfl, h⟩
  | _, _, i + 1, v, .cons _ t, e => da_at (i := i) t e
theorem da_app {K : Kx} {H : Hp} : ∀ {vs ws : List V} {ds es : List D}, RpAll K H vs ds → RpAll K H ws es → RpAll K H (vs ++ ws) (ds ++ es)
  | _, _, _, _, .nil, h => h
  | _, _, _, _, .cons h t, q => .cons h (da_app t q)
theorem da_set {K : Kx} {H : Hp} {v : V} {d : D} (r : Rp K H v d) : ∀ {vs : List V} {ds : List D} (n : Nat), RpAll K H vs ds → RpAll K H (vs.set n v) (ds.set n d)
  | _, _, _, .nil => .nil
  | _, _, 0, .cons _ t => .cons r t
  | _, _, n + 1, .cons h t => .cons h (da_set r n t)
theorem da_ints {K : Kx} {H : Hp} : ∀ ns : List Int, RpAll K H (ns.map V.int) (ns.map PyData.int)
  | [] => .nil
  | n :: ns => .cons (.int n) (da_ints ns)
/-- a list of one's own at a: it isn't among what stands for good -/
def OwnB (K : Kx) (F H : Hp) (a : Addr) (d : D) : Prop := (∃ xs ds, d = .list ds ∧ H a = some (.lst xs) ∧ RpAll K F xs ds) ∨ (∃ xs es, d = .dict es ∧ H a = some (dicO K a xs) ∧ RpN K F xs es) ∨ (∃ ks es, d = .tuple [.dict es] ∧ H a = some (.dK ks) ∧ RpKV K F ks es)
/-- no dict with text keys of one's own (these bear a tuple around them) -/
def notT : D → Bool
  | .tuple _ => false
  | _ => true
def OwnAt (K : Kx) (F H : Hp) (a : Addr) (d : D) : Prop := F a = none ∧ OwnB K F H a d
theorem OwnAt.there {K : Kx} {F H : Hp} {a : Addr} {d : D} (h : OwnAt K F H a d) : ∃ o, H a = some o := by
  rcases h.2 with ⟨_, _, _, e, _⟩ | ⟨_, _, _, e, _⟩ | ⟨_, _, _, e, _⟩ <;> exact ⟨_, e⟩
theorem OwnB.mono {K : Kx} {F F' H H' : Hp} {a : Addr} {d : D} (h : OwnB K F H a d) (f : Same F F') (e : ∀ o, H a = some o → H' a = some o) : OwnB K F' H' a d := by
  rcases h with ⟨xs, ds, e1, e2, r⟩ | ⟨xs, es, e1, e2, r⟩ | ⟨ks, es, e1, e2, r⟩
  · exact .inl ⟨xs, ds, e1, e _ e2, dpAll_mono f _ _ r⟩
  · exact .inr (.inl ⟨xs, es, e1, e _ e2, dpN_mono f _ _ r⟩)
  · exact .inr (.inr ⟨ks, es, e1, e _ e2, dpKV_mono f _ _ r⟩)
/-- .. a list, or a dict with tuple keys -/
def OwnN (K : Kx) (F H : Hp) (a : Addr) (d : D) : Prop := OwnAt K F H a d ∧ notT d = true
def CellOk (K : Kx) (F H : Hp) (x : Option (Option V)) : Cell → Prop
  | .val d => ∃ v, x = some (some v) ∧ Rp K F v d
  | .own _ d => ∃ a, x = some (some (.ref a)) ∧ OwnAt K F H a d
def Owns (σ : L2.St) (ρ : Env) (b : Addr) : Prop := ∃ (i : Nat) (f : Bool) (d : D), ρ[i]? = some (some (.own f d)) ∧ σ[i]? = some (some (.ref b))
/-- slots and heap bear the data environment; F is what stands for good -/
structure St (K : Kx) (F H : Hp) (σ : L2.St) (ρ : Env) : Prop where
  sub : Same F H
  len : ρ.length = σ.length
  cell : ∀ (i : Nat) (c : Cell), ρ[i]? = some (some c) → CellOk K F H σ[i]? c
  dist : ∀ (i j : Nat) (f g : Bool) (d e : D) (a : Addr), ρ[i]? = some (some (.own f d)) → ρ[j]? = some (some (.own g e)) → σ[i]? = some (some (.ref a)) → σ[j]? = some (some (.ref a)) → i = j
theorem St.free {K : Kx} {F H : Hp} {σ : L2.St} {ρ : Env} (s : St K F H σ ρ) {b : Addr} (o : Owns σ ρ b) : F b = none ∧ ∃ u, H b = some u := by
  obtain ⟨i, f, d, e, e2⟩ := o
  obtain ⟨a, e3, h⟩ := s.cell i _ e
  rw [e2] at e3
  cases e3
  exact ⟨h.1, h.there⟩
/-- from one state to another: what stood, but one's own, stands -/
structure Stp (F : Hp) (σ : L2.St) (ρ : Env) (H : Hp) (F' : Hp) (σ' : L2.St) (ρ' : Env) (H' : Hp) : Prop where
  ff : Same F F'
  keep : ∀ b o, H b = some o → ¬ Owns σ ρ b → H' b = some o ∧ F' b = F b
  fresh : ∀ b, Owns σ' ρ' b → Owns σ ρ b ∨ H b = none
  fix : ∀ (i : Nat) (d : D), ρ[i]? = some (some (.own true d)) → σ'[i]? = σ[i]? ∧ ∃ d', ρ'[i]? = some (some (.own true d'))
  dom : ∀ b o, H b = some o → ∃ o', H' b = some o'
theorem Stp.refl {F : Hp} {σ : L2.St} {ρ : Env} {H : Hp} : Stp F σ ρ H F σ ρ H := ⟨Same.refl _, fun _ _ h _ => ⟨h, rfl⟩, fun _ h => .inl h, fun _ d h => ⟨rfl, d, h⟩, fun _ o h => ⟨o, h⟩⟩
theorem Stp.trans {F F1 F2 : Hp} {σ σ1 σ2 : L2.St} {ρ ρ1 ρ2 : Env} {H H1 H2 : Hp} (a : Stp F σ ρ H F1 σ1 ρ1 H1) (b : Stp F1 σ1 ρ1 H1 F2 σ2 ρ2 H2) : Stp F σ ρ H F2 σ2 ρ2 H2 where
  ff := a.ff.trans b.ff
  keep := fun c o h n => by
    obtain ⟨h1, f1⟩ := a.keep c o h n
    have n1 : ¬ Owns σ1 ρ1 c := fun z => by
      rcases a.fresh c z with y | y
      · exact n y
      · rw [h] at y; cases y
    obtain ⟨h2, f2⟩ := b.keep c o h1 n1
    exact ⟨h2, f2.trans f1⟩
  fresh := fun c z => by
    rcases b.fresh c z with y | y
    · exact a.fresh c y
    · cases q : H c with
      | none => exact .inr rfl
      | some o =>
        by_cases n : Owns σ ρ c
        · exact .inl n
        · rw [(a.keep c o q n).1] at y; cases y
  fix := fun i d h => by
    obtain ⟨e1, d1, h1⟩ := a.fix i d h
    obtain ⟨e2, d2, h2⟩ := b.fix i d1 h1
    exact ⟨e2.trans e1, d2, h2⟩
  dom := fun c o h => by
    obtain ⟨o1, h1⟩ := a.dom c o h
    exact b.dom c o1 h1
theorem Stp.none {F F1 : Hp} {σ σ1 : L2.St} {ρ ρ1 : Env} {H H1 : Hp} (a : Stp F σ ρ H F1 σ1 ρ1 H1) {p : Addr} (h : H1 p = none) : H p = none := by
  cases q : H p with
  | none => rfl
  | some o =>
    obtain ⟨o', e⟩ := a.dom p o q
    rw [h] at e
    cases e
/-- new things, and nothing else -/
structure Grow (F H F' H' : Hp) : Prop where
  ff : Same F F'
  hh : Same H H'
  fh : Same F' H'
  new : ∀ b o, H b = some o → F' b = F b
theorem Grow.refl {F H : Hp} (s : Same F H) : Grow F H F H := ⟨Same.refl _, Same.refl _, s, fun _ _ _ => rfl⟩
theorem Grow.trans {F H F1 H1 F2 H2 : Hp} (a : Grow F H F1 H1) (b : Grow F1 H1 F2 H2) : Grow F H F2 H2 :=
  ⟨a.ff.trans b.ff, a.hh.trans b.hh, b.fh, fun c o h => (b.new c o (a.hh c o h)).trans (a.new c o h)⟩
theorem same_new {H : Hp} {p : Addr} {o : HO} (h : H p = none) : Same H (upd H p o) := fun b x e => by
  rw [upd_ne (ne_of_none e h)]
  exact e
theorem same_upd2 {F H : Hp} {p : Addr} {o : HO} (s : Same F H) : Same (upd F p o) (upd H p o) := fun b x e => by
  by_cases h : b = p
  · subst h
    rw [upd_same] at e ⊢
    exact e
  · rw [upd_ne h] at e ⊢
    exact s b x e
theorem none_sub {F H : Hp} {p : Addr} (s : Same F H) (h : H p = none) : F p = none := s.free h
/-- a new thing that stands for good -/
theorem Grow.val {F H : Hp} {p : Addr} {o : HO} (s : Same F H) (h : H p = none) : Grow F H (upd F p o) (upd H p o) :=
  ⟨same_new (none_sub s h), same_new h, same_upd2 s, fun b x e => upd_ne (ne_of_none e h)⟩
/-- a new thing of one's own -/
theorem Grow.own {F H : Hp} {p : Addr} {o : HO} (s : Same F H) (h : H p = none) : Grow F H F (upd H p o) :=
  ⟨Same.refl _, same_new h, s.trans (same_new h), fun _ _ _ => rfl⟩
theorem OwnAt.grow {K : Kx} {F H F' H' : Hp} {a : Addr} {d : D} (g : Grow F H F' H') (h : OwnAt K F H a d) : OwnAt K F' H' a d := by
  obtain ⟨o, ho⟩ := h.there
  exact ⟨(g.new a _ ho).trans h.1, h.2.mono g.ff fun o e => g.hh _ _ e⟩
theorem St.grow {K : Kx} {F H F' H' : Hp} {σ : L2.St} {ρ : Env} (s : St K F H σ ρ) (g : Grow F H F' H') : St K F' H' σ ρ where
  sub := g.fh
  len := s.len
  cell := fun i c e => by
    have q := s.cell i c e
    cases c with
    | val d =>
      obtain ⟨v, e1, r⟩ := q
      exact ⟨v, e1, dp_mono g.ff _ _ r⟩
    | own f d =>
      obtain ⟨a, e1, r⟩ := q
      exact ⟨a, e1, r.grow g⟩
  dist := s.dist
theorem Grow.stp {F H F' H' : Hp} (g : Grow F H F' H') (σ : L2.St) (ρ : Env) : Stp F σ ρ H F' σ ρ H' :=
  ⟨g.ff, fun b o h _ => ⟨g.hh b o h, g.new b o h⟩, fun _ h => .inl h, fun _ d h => ⟨rfl, d, h⟩, fun b o h => ⟨o, g.hh b o h⟩⟩
section
variable (K : Kx)
def tD (g : Md D) : TE := fun σ H Q => ∃ (F : Hp) (ρ : Env) (d : D) (ρ' : Env), St K F H σ ρ ∧ g ρ = some (d, ρ') ∧
  ∀ v F' H', Stp F σ ρ H F' σ ρ' H' → St K F' H' σ ρ' → Rp K F' v d → Q v H'
/-- the answer is a new list of one's own -/
def tF (g : Md D) : TE := fun σ H Q => ∃ (F : Hp) (ρ : Env) (d : D) (ρ' : Env), St K F H σ ρ ∧ g ρ = some (d, ρ') ∧
  ∀ a F' H', Stp F σ ρ H F' σ ρ' H' → St K F' H' σ ρ' → OwnN K F' H' a d → ¬ Owns σ ρ' a → H a = none → Q (.ref a) H'
def tDT (g : Md Bool) : TT := fun σ H Q => ∃ (F : Hp) (ρ : Env) (d : Bool) (ρ' : Env), St K F H σ ρ ∧ g ρ = some (d, ρ') ∧
  ∀ F' H', Stp F σ ρ H F' σ ρ' H' → St K F' H' σ ρ' → Q d H'
def tDA (g : Md (List D)) : TA := fun σ H Q => ∃ (F : Hp) (ρ : Env) (ds : List D) (ρ' : Env), St K F H σ ρ ∧ g ρ = some (ds, ρ') ∧
  ∀ vs F' H', Stp F σ ρ H F' σ ρ' H' → St K F' H' σ ρ' → RpAll K F' vs ds → Q vs H'
inductive Fl where
  | nx | ret (d : D) | rof (d : D) | brk | cnt
abbrev Sd := Env → Option (Fl × Env)
def FlOk (E : Ends) (H0 F' : Hp) (σ' : L2.St) (H' : Hp) : Fl → Prop
  | .nx => E.nx σ' H'
  | .ret d => ∀ v, Rp K F' v d → E.rt v H'
  | .rof d => ∀ a, OwnN K F' H' a d → H0 a = none → E.rt (.ref a) H'
  | .brk => E.bk σ' H'
  | .cnt => E.ct σ' H'
def tDS (g : Sd) : TS := fun E σ H => ∃ (F : Hp) (ρ : Env) (f : Fl) (ρ' : Env), St K F H σ ρ ∧ g ρ = some (f, ρ') ∧
  ∀ σ' F' H', Stp F σ ρ H F' σ' ρ' H' → St K F' H' σ' ρ' → FlOk K E H F' σ' H' f
/-- a target's reading: the datum is stored -/
def tDG (is : List Nat) (g : D → Env → Option Env) : TG := fun v σ H Q => ∃ (F : Hp) (ρ : Env) (d : D) (ρ' : Env), St K F H σ ρ ∧ Rp K F v d ∧ g d ρ = some ρ' ∧
  ∀ σ' F' H', Stp F σ ρ H F' σ' ρ' H' → St K F' H' σ' ρ' → (σ'.length = σ.length ∧ ∀ j, j ∉ is → σ'[j]? = σ[j]?) → Q σ' H'
/-- operators: the answer from the data -/
def rP2 (f : D → D → Option D) : R2 := fun x y H Q => ∃ (F : Hp) (d e r : D), Same F H ∧ Rp K F x d ∧ Rp K F y e ∧ f d e = some r ∧ ∀ v F' H', Grow F H F' H' → Rp K F' v r → Q v H'
def rP1 (f : D → Option D) : V → Hp → VK → Prop := fun x H Q => ∃ (F : Hp) (d r : D), Same F H ∧ Rp K F x d ∧ f d = some r ∧ ∀ v F' H', Grow F H F' H' → Rp K F' v r → Q v H'
def rPn (f : List D → Option D) : List V → Hp → VK → Prop := fun xs H Q => ∃ (F : Hp) (ds : List D) (r : D), Same F H ∧ RpAll K F xs ds ∧ f ds = some r ∧ ∀ v F' H', Grow F H F' H' → Rp K F' v r → Q v H'
/-- .. a new list -/
def rFn (f : List D → Option D) : List V → Hp → VK → Prop := fun xs H Q => ∃ (F : Hp) (ds : List D) (r : D), Same F H ∧ RpAll K F xs ds ∧ f ds = some r ∧ ∀ a F' H', Grow F H F' H' → OwnN K F' H' a r → H a = none → Q (.ref a) H'
end
abbrev DE (X : Cx) (e : Expr) (g : Md D) : Prop := PE X e (tD (cxK X) g)
abbrev DF (X : Cx) (e : Expr) (g : Md D) : Prop := PE X e (tF (cxK X) g)
abbrev DT (X : Cx) (e : Expr) (g : Md Bool) : Prop := PT X e (tDT (cxK X) g)
abbrev DW (X : Cx) (e : Expr) (g : Md Bool) : Prop := PW X e (tDT (cxK X) g)
abbrev DA (X : Cx) (es : List Expr) (g : Md (List D)) : Prop := PA X es (tDA (cxK X) g)
abbrev DS (X : Cx) (st : Stmt) (g : Sd) : Prop := PS X st (tDS (cxK X) g)
abbrev DSs (X : Cx) (st : List Stmt) (g : Sd) : Prop := PSs X st (tDS (cxK X) g)
abbrev DG (X : Cx) (e : Expr) (is : List Nat) (g : D → Env → Option Env) : Prop := PG X e (tDG (cxK X) is g)
theorem pe_imp {X : Cx} {e : Expr} {t t' : TE} (h : PE X e t) (i : ∀ σ H Q, t' σ H Q → t σ H Q) : PE X e t' := ⟨fun pins s σ H Q I q => h.run pins s σ H Q I (i σ H Q q)⟩
theorem pt_imp {X : Cx} {e : Expr} {t t' : TT} (h : PT X e t) (i : ∀ σ H Q, t' σ H Q → t σ H Q) : PT X e t' := ⟨fun pins s σ H Q I q => h.run pins s σ H Q I (i σ H Q q)⟩
theorem pw_imp {X : Cx} {e : Expr} {t t' : TT} (h : PW X e t) (i : ∀ σ H Q, t' σ H Q → t σ H Q) : PW X e t' := ⟨fun wh pins s σ H Q I q => h.run wh pins s σ H Q I (i σ H Q q)⟩
theorem pa_imp {X : Cx} {e : List Expr} {t t' : TA} (h : PA X e t) (i : ∀ σ H Q, t' σ H Q → t σ H Q) : PA X e t' := ⟨fun pos pins s σ H Q I q => h.run pos pins s σ H Q I (i σ H Q q)⟩
theorem ps_imp {X : Cx} {e : Stmt} {t t' : TS} (h : PS X e t) (i : ∀ E σ H, t' E σ H → t E σ H) : PS X e t' := ⟨fun pins s σ H E I q => h.run pins s σ H E I (i E σ H q)⟩
theorem pss_imp {X : Cx} {e : List Stmt} {t t' : TS} (h : PSs X e t) (i : ∀ E σ H, t' E σ H → t E σ H) : PSs X e t' := ⟨fun pins s σ H E I q => h.run pins s σ H E I (i E σ H q)⟩
theorem pg_imp {X : Cx} {e : Expr} {t t' : TG} (h : PG X e t) (i : ∀ v σ H Q, t' v σ H Q → t v σ H Q) : PG X e t' := ⟨fun pins s σ H v u Q I r q => h.run pins s σ H v u Q I r (i v σ H Q q)⟩
end Dn
set_option maxHeartbeats 1000000
namespace Dn
open PySem PySem.Spec PyProof.Rows L2
def gC (d : D) : Md D := fun ρ => some (d, ρ)
def gVar (i : Nat) : Md D := fun ρ => match ρ[i]? with
  | some (some (.val d)) => some (d, ρ)
  | _ => none
def gFrz (i : Nat) : Md D := fun ρ => match ρ[i]? with
  | some (some (.val d)) => some (d, ρ)
  | some (some (.own false d)) => if notT d = true then some (d, ρ.set i (some (.val d))) else none
  | _ => none
def gBin (f : D → D → Option D) (ga gb : Md D) : Md D := fun ρ => (ga ρ).bind fun p => (gb p.2).bind fun q => (f p.1 q.1).bind fun r => some (r, q.2)
def gUn (f : D → Option D) (ga : Md D) : Md D := fun ρ => (ga ρ).bind fun p => (f p.1).bind fun r => some (r, p.2)
def bOf : D → Option Bool
  | .bool b => some b
  | _ => none
def gTst (g : Md D) : Md Bool := fun ρ => (g ρ).bind fun p => (bOf p.1).bind fun b => some (b, p.2)
def gChain (f f' : D → D → Option D) (ga gb gc : Md D) : Md D := fun ρ => (ga ρ).bind fun p => (gb p.2).bind fun q => (f p.1 q.1).bind fun r => (bOf r).bind fun b =>
  if b = true then (gc q.2).bind fun t => (f' q.1 t.1).bind fun r => some (r, t.2) else some (.bool false, q.2)
def gAnd (ga gb : Md Bool) : Md Bool := fun ρ => (ga ρ).bind fun p => if p.1 = true then gb p.2 else some (false, p.2)
def gOr (ga gb : Md Bool) : Md Bool := fun ρ => (ga ρ).bind fun p => if p.1 = true then some (true, p.2) else gb p.2
def gNot (ga : Md Bool) : Md Bool := fun ρ => (ga ρ).bind fun p => some (!p.1, p.2)
def gAndV (ga gb : Md D) : Md D := fun ρ => (ga ρ).bind fun p => (bOf p.1).bind fun b => if b = true then gb p.2 else some (.bool false, p.2)
def gOrV (ga gb : Md D) : Md D := fun ρ => (ga ρ).bind fun p => (bOf p.1).bind fun b => if b = true then some (.bool true, p.2) else gb p.2
def gNotV (ga : Md D) : Md D := fun ρ => (ga ρ).bind fun p => (bOf p.1).bind fun b => some (.bool (!b), p.2)
def gIfE (gc : Md Bool) (ga gb : Md D) : Md D := fun ρ => (gc ρ).bind fun p => if p.1 = true then ga p.2 else gb p.2
def gNil : Md (List D) := fun ρ => some ([], ρ)
def gCons (g : Md D) (gs : Md (List D)) : Md (List D) := fun ρ => (g ρ).bind fun p => (gs p.2).bind fun q => some (p.1 :: q.1, q.2)
def gApp (f : List D → Option D) (gs : Md (List D)) : Md D := fun ρ => (gs ρ).bind fun p => (f p.1).bind fun r => some (r, p.2)
section
variable {X : Cx} {a b c e : Expr} {es : List Expr} {pos : Pos}
theorem st_owned {K : Kx} {F H : Hp} {σ : L2.St} {ρ : Env} {i : Nat} {f : Bool} {d : D} (s : St K F H σ ρ) (e : ρ[i]? = some (some (.own f d))) : ∃ a, σ[i]? = some (some (.ref a)) ∧ OwnAt K F H a d ∧ Owns σ ρ a := by
  obtain ⟨a, e1, h⟩ := s.cell i _ e
  exact ⟨a, e1, h, i, f, d, e, e1⟩
theorem st_val {K : Kx} {F H : Hp} {σ : L2.St} {ρ : Env} {i : Nat} {d : D} (s : St K F H σ ρ) (e : ρ[i]? = some (some (.val d))) : ∃ v, σ[i]? = some (some v) ∧ Rp K F v d := s.cell i _ e
/-- a list of one's own comes to stand for good -/
theorem own_dp {K : Kx} {F H : Hp} {a : Addr} {d : D} (h : OwnN K F H a d) : ∃ o, H a = some o ∧ Same F (upd F a o) ∧ Rp K (upd F a o) (.ref a) d := by
  obtain ⟨⟨f, h⟩, hn⟩ := h
  rcases h with ⟨xs, ds, rfl, e, r⟩ | ⟨xs, es, rfl, e, r⟩ | ⟨xs, es, rfl, e, r⟩
  · exact ⟨_, e, same_new f, .lst (.inl (.inl upd_same)) (dpAll_mono (same_new f) _ _ r)⟩
  · exact ⟨_, e, same_new f, .dicN upd_same (dpN_mono (same_new f) _ _ r)⟩
  · cases hn
theorem sub_upd {F H : Hp} {a : Addr} {o : HO} (s : Same F H) (e : H a = some o) : Same (upd F a o) H := fun b x h => by
  by_cases q : b = a
  · subst q
    rw [upd_same] at h
    rw [e]
    exact h
  · rw [upd_ne q] at h
    exact s b x h
theorem own_keep {K : Kx} {F H : Hp} {a b : Addr} {d : D} {o : HO} (h : OwnAt K F H b d) (n : b ≠ a) (hF : F a = none) : OwnAt K (upd F a o) H b d := by
  exact ⟨(upd_ne n).trans h.1, h.2.mono (same_new hF) fun _ e => e⟩
theorem st_frz {K : Kx} {F H : Hp} {σ : L2.St} {ρ : Env} {a : Addr} {o : HO} (s : St K F H σ ρ) (hF : F a = none) (e : H a = some o) (n : ¬ Owns σ ρ a) : St K (upd F a o) H σ ρ where
  sub := sub_upd s.sub e
  len := s.len
  cell := fun i c h => by
    have q := s.cell i c h
    cases c with
    | val d =>
      obtain ⟨v, e1, r⟩ := q
      exact ⟨v, e1, dp_mono (same_new hF) _ _ r⟩
    | own f d =>
      obtain ⟨b, e1, r⟩ := q
      exact ⟨b, e1, own_keep r (fun z => n (by subst z; exact ⟨i, f, d, h, e1⟩)) hF⟩
  dist := s.dist
theorem get_set_self {α : Type} {l : List α} {i : Nat} {x y : α} (h : l[i]? = some y) : (l.set i x)[i]? = some x := List.getElem?_set_self (List.getElem?_eq_some_iff.mp h).1
theorem get_set_ne {α : Type} {l : List α} {i j : Nat} {x : α} (h : j ≠ i) : (l.set i x)[j]? = l[j]? := List.getElem?_set_ne (Ne.symm h)
theorem df_de {g : Md D} (h : DF X e g) : DE X e g := pe_imp h fun σ H Q q => by
  obtain ⟨F, ρ, d, ρ', s, eg, k⟩ := q
  refine ⟨F, ρ, d, ρ', s, eg, fun a F' H' st s' o n hn => ?_⟩
  obtain ⟨u, eu, sf, r⟩ := own_dp o
  refine k (.ref a) (upd F' a u) H' ⟨st.ff.trans sf, fun b x hb nb => ?_, st.fresh, st.fix, st.dom⟩ (st_frz s' o.1.1 eu n) r
  obtain ⟨h1, h2⟩ := st.keep b x hb nb
  exact ⟨h1, (upd_ne (ne_of_none hb hn)).trans h2⟩
theorem de_var (i : Nat) {x : Str} (hN : X.N[i]? = some x) (hv : Vis X.env.scope x) (hd : (x == ("__debug__" : Str)) = false := by decide) (hcd : (x == ("__classdict__" : Str)) = false := by decide) : DE X (.Name x pos) (gVar i) :=
  pe_imp (pe_var hN hv hd hcd) fun σ H Q q => by
    obtain ⟨F, ρ, d, ρ', s, eg, k⟩ := q
    unfold gVar at eg
    split at eg
    · rename_i d' h
      cases eg
      obtain ⟨v, e1, r⟩ := st_val s h
      exact ⟨v, e1, k v F H Stp.refl s r⟩
    · cases eg
theorem de_frz (i : Nat) {x : Str} (hN : X.N[i]? = some x) (hv : Vis X.env.scope x) (hd : (x == ("__debug__" : Str)) = false := by decide) (hcd : (x == ("__classdict__" : Str)) = false := by decide) : DE X (.Name x pos) (gFrz i) :=
  pe_imp (pe_var hN hv hd hcd) fun σ H Q q => by
    obtain ⟨F, ρ, d, ρ', s, eg, k⟩ := q
    unfold gFrz at eg
    split at eg
    · rename_i d' h
      cases eg
      obtain ⟨v, e1, r⟩ := st_val s h
      exact ⟨v, e1, k v F H Stp.refl s r⟩
    · rename_i d' h
      by_cases hnt : notT d' = true
      case neg =>
        rw [if_neg hnt] at eg
        cases eg
      rw [if_pos hnt] at eg
      cases eg
      obtain ⟨a, e1, r, ow⟩ := st_owned s h
      obtain ⟨u, eu, sf, rd⟩ := own_dp ⟨r, hnt⟩
      refine ⟨.ref a, e1, k (.ref a) (upd F a u) H ⟨sf, fun b o hb nb => ⟨hb, upd_ne fun z => nb (by subst z; exact ow)⟩, fun b hb => ?_, fun j dj hj => ?_, fun _ o h => ⟨o, h⟩⟩ ?_ rd⟩
      · obtain ⟨j, f, dj, h1, h2⟩ := hb
        by_cases z : j = i
        · subst z
          rw [get_set_self h] at h1
          cases h1
        · rw [get_set_ne z] at h1
          exact .inl ⟨j, f, dj, h1, h2⟩
      · have z : j ≠ i := fun z => by
          subst z
          rw [h] at hj
          cases hj
        exact ⟨rfl, dj, by rw [get_set_ne z]; exact hj⟩
      · refine ⟨sub_upd s.sub eu, by rw [List.length_set]; exact s.len, fun j c hj => ?_, fun j l f g dj dl b h1 h2 h3 h4 => ?_⟩
        · by_cases z : j = i
          · subst z
            rw [get_set_self h] at hj
            cases hj
            exact ⟨.ref a, e1, rd⟩
          · rw [get_set_ne z] at hj
            have q := s.cell j c hj
            cases c with
            | val dj =>
              obtain ⟨v, e2, r2⟩ := q
              exact ⟨v, e2, dp_mono sf _ _ r2⟩
            | own f dj =>
              obtain ⟨b, e2, r2⟩ := q
              exact ⟨b, e2, own_keep r2 (fun y => z (by subst y; exact s.dist j i f false dj _ _ hj h e2 e1)) r.1⟩
        · have z1 : j ≠ i := fun z => by subst z; rw [get_set_self h] at h1; cases h1
          have z2 : l ≠ i := fun z => by subst z; rw [get_set_self h] at h2; cases h2
          rw [get_set_ne z1] at h1
          rw [get_set_ne z2] at h2
          exact s.dist j l f g dj dl b h1 h2 h3 h4
    · cases eg
theorem de_const {t : TE} {d : D} {v : V} (h : PE X e (tC v)) (r : ∀ F, Rp (cxK X) F v d) : DE X e (gC d) := pe_imp h fun σ H Q q => by
  obtain ⟨F, ρ, d', ρ', s, eg, k⟩ := q
  cases eg
  exact k v F H Stp.refl s (r F)
theorem de_int {i : Int} {j : Nat} : DE X (.Constant (.int i) j pos) (gC (.int i)) := de_const (t := tC .non) pe_int fun _ => .int i
theorem de_bl {b : Bool} {j : Nat} : DE X (.Constant (.bool b) j pos) (gC (.bool b)) := de_const (t := tC .non) pe_bl fun _ => .bl b
theorem de_non {j : Nat} : DE X (.Constant .none j pos) (gC .none) := de_const (t := tC .non) pe_non fun _ => .non
theorem de_str {x : Str} {j : Nat} : DE X (.Constant (.str x) j pos) (gC (.str x)) := de_const (t := tC .non) pe_str fun _ => .str x
theorem bind_some {α β : Type} {o : Option α} {f : α → Option β} {r : β} (h : o.bind f = some r) : ∃ a, o = some a ∧ f a = some r := by
  cases o with
  | none => cases h
  | some a => exact ⟨a, rfl, h⟩
theorem dp_bl {K : Kx} {H : Hp} {v : V} {b : Bool} (h : Rp K H v (.bool b)) : v = .bl b := by cases h; rfl
theorem bOf_some {d : D} {b : Bool} (h : bOf d = some b) : d = .bool b := by
  cases d <;> simp [bOf] at h
  subst h
  rfl
theorem bin_q {r : R2} {f : D → D → Option D} {ga gb : Md D} (hr : r = rP2 (cxK X) f) {σ : L2.St} {H : Hp} {Q : VK} (q : tD (cxK X) (gBin f ga gb) σ H Q) : tOp r (tD (cxK X) ga) (tD (cxK X) gb) σ H Q := by
  subst hr
  obtain ⟨F, ρ, d, ρ', s, eg, k⟩ := q
  obtain ⟨⟨x, ρ1⟩, e1, eg⟩ := bind_some eg
  obtain ⟨⟨y, ρ2⟩, e2, eg⟩ := bind_some eg
  obtain ⟨z, e3, eg⟩ := bind_some eg
  cases eg
  exact ⟨F, ρ, x, ρ1, s, e1, fun v F1 H1 p1 s1 r1 => ⟨F1, ρ1, y, ρ2, s1, e2, fun u F2 H2 p2 s2 r2 => ⟨F2, x, y, _, s2.sub, dp_mono p2.ff _ _ r1, r2, e3, fun w F3 H3 gr rw' =>
    k w F3 H3 (p1.trans (p2.trans (gr.stp σ ρ2))) (s2.grow gr) rw'⟩⟩⟩
theorem de_bin {op : Operator} {f : D → D → Option D} {ga gb : Md D} (ho : OpR X (binaryOp op) (rP2 (cxK X) f)) (ha : DE X a ga) (hb : DE X b gb) : DE X (.BinOp a op b pos) (gBin f ga gb) :=
  pe_imp (pe_op ho ha hb) fun _ _ _ q => bin_q rfl q
theorem de_cmp {op : CmpOp} {f : D → D → Option D} {ga gb : Md D} (ho : OpR X (compareOp op) (rP2 (cxK X) f)) (ha : DE X a ga) (hb : DE X b gb) (hm : behindInMarks op b = false) : DE X (.Compare a [op] [b] pos) (gBin f ga gb) :=
  pe_imp (pe_cmpR ho ha hb hm) fun _ _ _ q => bin_q rfl q
theorem de_ix {f : D → D → Option D} {ga gb : Md D} (ho : IxR X (rP2 (cxK X) f)) (ha : DE X a ga) (hb : DE X b gb) (hs : PlainIx b) : DE X (.Subscript a b pos) (gBin f ga gb) :=
  pe_imp (pe_ix ho ha hb hs) fun _ _ _ q => bin_q rfl q
theorem de_un {op : UnaryOp} {f : D → Option D} {ga : Md D} (ho : UnR X (unaryOp op) (rP1 (cxK X) f)) (ha : DE X a ga) : DE X (.UnaryOp op a pos) (gUn f ga) :=
  pe_imp (pe_un ho ha) fun σ H Q q => by
    obtain ⟨F, ρ, d, ρ', s, eg, k⟩ := q
    obtain ⟨⟨x, ρ1⟩, e1, eg⟩ := bind_some eg
    obtain ⟨z, e3, eg⟩ := bind_some eg
    cases eg
    exact ⟨F, ρ, x, ρ1, s, e1, fun v F1 H1 p1 s1 r1 => ⟨F1, x, _, s1.sub, r1, e3, fun w F3 H3 gr rw' => k w F3 H3 (p1.trans (gr.stp σ ρ1)) (s1.grow gr) rw'⟩⟩
theorem tst_q {g : Md D} {σ : L2.St} {H : Hp} {Q : Bool → Hp → Prop} (q : tDT (cxK X) (gTst g) σ H Q) : tD (cxK X) g σ H (fun x H1 => ∃ k, x = .bl k ∧ Q k H1) := by
  obtain ⟨F, ρ, d, ρ', s, eg, k⟩ := q
  obtain ⟨⟨x, ρ1⟩, e1, eg⟩ := bind_some eg
  obtain ⟨z, e3, eg⟩ := bind_some eg
  cases eg
  refine ⟨F, ρ, x, _, s, e1, fun v F1 H1 p1 s1 r1 => ⟨d, ?_, k F1 H1 p1 s1⟩⟩
  have e : x = .bool d := bOf_some e3
  subst e
  exact dp_bl r1
theorem dt_cmp {op : CmpOp} {f : D → D → Option D} {ga gb : Md D} (ho : OpR X (compareOp op) (rP2 (cxK X) f)) (ha : DE X a ga) (hb : DE X b gb) (hm : behindInMarks op b = false) : DT X (.Compare a [op] [b] pos) (gTst (gBin f ga gb)) :=
  pt_imp (pt_cmpR ho ha hb hm) fun σ H Q q => bin_q rfl (tst_q q)
theorem chain_q {f f' : D → D → Option D} {ga gb gc : Md D} {σ : L2.St} {H : Hp} {Q : VK} (q : tD (cxK X) (gChain f f' ga gb gc) σ H Q) : tChain (rP2 (cxK X) f) (rP2 (cxK X) f') (tD (cxK X) ga) (tD (cxK X) gb) (tD (cxK X) gc) σ H Q := by
  obtain ⟨F, ρ, d, ρ', s, eg, k⟩ := q
  obtain ⟨⟨x, ρ1⟩, e1, eg⟩ := bind_some eg
  obtain ⟨⟨y, ρ2⟩, e2, eg⟩ := bind_some eg
  obtain ⟨z, e3, eg⟩ := bind_some eg
  obtain ⟨t, e4, eg4⟩ := bind_some eg
  clear eg
  have e5 : z = .bool t := bOf_some e4
  subst e5
  refine ⟨F, ρ, x, ρ1, s, e1, fun v F1 H1 p1 s1 r1 => ⟨F1, ρ1, y, ρ2, s1, e2, fun u F2 H2 p2 s2 r2 => ⟨F2, x, y, _, s2.sub, dp_mono p2.ff _ _ r1, r2, e3, fun w F3 H3 gr rw' => ⟨t, dp_bl rw', ?_⟩⟩⟩⟩
  have p3 := p1.trans (p2.trans (gr.stp σ ρ2))
  cases t with
  | true =>
    rw [if_pos rfl] at eg4 ⊢
    obtain ⟨⟨m, ρ3⟩, e6, eg5⟩ := bind_some eg4
    obtain ⟨n, e7, eg6⟩ := bind_some eg5
    cases eg6
    exact ⟨F3, ρ2, m, ρ3, s2.grow gr, e6, fun v4 F4 H4 p4 s4 r4 => ⟨F4, y, m, _, s4.sub, dp_mono (gr.ff.trans p4.ff) _ _ r2, r4, e7, fun v5 F5 H5 gr5 r5 =>
      k v5 F5 H5 (p3.trans (p4.trans (gr5.stp σ ρ3))) (s4.grow gr5) r5⟩⟩
  | false =>
    rw [if_neg Bool.false_ne_true] at eg4 ⊢
    cases eg4
    exact k (.bl false) F3 H3 p3 (s2.grow gr) (.bl false)
theorem dt_chain {op op' : CmpOp} {f f' : D → D → Option D} {ga gb gc : Md D} (ho : OpR X (compareOp op) (rP2 (cxK X) f)) (ho' : OpR X (compareOp op') (rP2 (cxK X) f')) (ha : DE X a ga) (hb : DE X b gb) (hc : DE X c gc) (hm : lastMarks [op, op'] [b, c] = false := by with_unfolding_all rfl) : DT X (.Compare a [op, op'] [b, c] pos) (gTst (gChain f f' ga gb gc)) :=
  pt_imp (pt_chain ho ho' ha hb hc hm) fun _ _ _ q => chain_q (tst_q q)
theorem dt_and {ga gb : Md Bool} {rest : List Expr} (ha : DT X a ga) (hb : DW X (.BoolOp .And (b :: rest) pos) gb) : DW X (.BoolOp .And (a :: b :: rest) pos) (gAnd ga gb) :=
  pw_imp (pw_and ha hb) fun σ H Q q => by
    obtain ⟨F, ρ, d, ρ', s, eg, k⟩ := q
    obtain ⟨⟨x, ρ1⟩, e1, eg⟩ := bind_some eg
    refine ⟨F, ρ, x, ρ1, s, e1, fun F1 H1 p1 s1 => ?_⟩
    cases x with
    | true => exact ⟨F1, ρ1, d, ρ', s1, eg, fun F2 H2 p2 s2 => k F2 H2 (p1.trans p2) s2⟩
    | false =>
      cases eg
      exact k F1 H1 p1 s1
theorem dt_or {ga gb : Md Bool} {rest : List Expr} (ha : DT X a ga) (hb : DW X (.BoolOp .Or (b :: rest) pos) gb) : DW X (.BoolOp .Or (a :: b :: rest) pos) (gOr ga gb) :=
  pw_imp (pw_or ha hb) fun σ H Q q => by
    obtain ⟨F, ρ, d, ρ', s, eg, k⟩ := q
    obtain ⟨⟨x, ρ1⟩, e1, eg⟩ := bind_some eg
    refine ⟨F, ρ, x, ρ1, s, e1, fun F1 H1 p1 s1 => ?_⟩
    cases x with
    | false => exact ⟨F1, ρ1, d, ρ', s1, eg, fun F2 H2 p2 s2 => k F2 H2 (p1.trans p2) s2⟩
    | true =>
      cases eg
      exact k F1 H1 p1 s1
theorem dt_and1 {ga : Md Bool} (ha : DT X a ga) : DW X (.BoolOp .And [a] pos) ga := pw_and1 ha
theorem dt_or1 {ga : Md Bool} (ha : DT X a ga) : DW X (.BoolOp .Or [a] pos) ga := pw_or1 ha
theorem dt_bool {op : BoolOp} {ga : Md Bool} (h : DW X (.BoolOp op es pos) ga) : DT X (.BoolOp op es pos) ga := h.pt
theorem dt_not {ga : Md Bool} (ha : DT X a ga) : DT X (.UnaryOp .Not a pos) (gNot ga) :=
  pt_imp (pt_not ha) fun σ H Q q => by
    obtain ⟨F, ρ, d, ρ', s, eg, k⟩ := q
    obtain ⟨⟨x, ρ1⟩, e1, eg⟩ := bind_some eg
    cases eg
    exact ⟨F, ρ, x, _, s, e1, fun F1 H1 p1 s1 => k F1 H1 p1 s1⟩
theorem da_nl : DA X [] gNil := pa_imp pa_nil fun σ H Q q => by
  obtain ⟨F, ρ, d, ρ', s, eg, k⟩ := q
  cases eg
  exact k [] F H Stp.refl s .nil
theorem da_cs {g : Md D} {gs : Md (List D)} (ha : DE X e g) (hr : DA X es gs) (hs : starEach (e :: es) X.env = (false, eval e X.env) :: starEach es X.env := by rfl) : DA X (e :: es) (gCons g gs) :=
  pa_imp (pa_cons ha hr hs) fun σ H Q q => by
    obtain ⟨F, ρ, d, ρ', s, eg, k⟩ := q
    obtain ⟨⟨x, ρ1⟩, e1, eg⟩ := bind_some eg
    obtain ⟨⟨y, ρ2⟩, e2, eg⟩ := bind_some eg
    cases eg
    exact ⟨F, ρ, x, ρ1, s, e1, fun v F1 H1 p1 s1 r1 => ⟨F1, ρ1, y, _, s1, e2, fun u F2 H2 p2 s2 r2 => k (v :: u) F2 H2 (p1.trans p2) s2 (.cons (dp_mono p2.ff _ _ r1) r2)⟩⟩
def mkTup (ds : List D) : Option D := if ds.length ≤ 16777216 then some (.tuple ds) else none
def mkLst (ds : List D) : Option D := if ds.length ≤ 16777216 then some (.list ds) else none
theorem line_eq : sizeLine = 16777216 := sizeLine_eq
theorem de_tup {gs : Md (List D)} {k : Nat} (h : DA X es gs) : DE X (.Tuple es k pos) (gApp mkTup gs) :=
  pe_imp (pe_tup h) fun σ H Q q => by
    obtain ⟨F, ρ, d, ρ', s, eg, k⟩ := q
    obtain ⟨⟨x, ρ1⟩, e1, eg⟩ := bind_some eg
    obtain ⟨z, e3, eg⟩ := bind_some eg
    cases eg
    unfold mkTup at e3
    split at e3
    · rename_i hl
      cases e3
      refine ⟨F, ρ, x, ρ1, s, e1, fun vs F1 H1 p1 s1 r1 => ⟨by rw [line_eq, da_len r1]; exact hl, fun p hp => ?_⟩⟩
      have gr : Grow F1 H1 (upd F1 p (.tup vs)) (upd H1 p (.tup vs)) := Grow.val s1.sub hp
      exact k _ _ _ (p1.trans (gr.stp σ ρ1)) (s1.grow gr) (.tup (.inl (.inl upd_same)) (dpAll_mono gr.ff _ _ r1))
    · cases e3
theorem own_new {K : Kx} {F H : Hp} {p : Addr} {vs : List V} {ds : List D} (s : Same F H) (hp : H p = none) (r : RpAll K F vs ds) : OwnN K F (upd H p (.lst vs)) p (.list ds) := ⟨⟨none_sub s hp, .inl ⟨vs, ds, rfl, upd_same, r⟩⟩, rfl⟩
theorem not_owns {K : Kx} {F H : Hp} {σ : L2.St} {ρ : Env} {p : Addr} (s : St K F H σ ρ) (hp : H p = none) : ¬ Owns σ ρ p := fun z => by
  obtain ⟨_, u, e⟩ := s.free z
  rw [hp] at e
  cases e
theorem df_lst {gs : Md (List D)} (h : DA X es gs) : DF X (.List es pos) (gApp mkLst gs) :=
  pe_imp (pe_lst h) fun σ H Q q => by
    obtain ⟨F, ρ, d, ρ', s, eg, k⟩ := q
    obtain ⟨⟨x, ρ1⟩, e1, eg⟩ := bind_some eg
    obtain ⟨z, e3, eg⟩ := bind_some eg
    cases eg
    unfold mkLst at e3
    split at e3
    · rename_i hl
      cases e3
      refine ⟨F, ρ, x, ρ1, s, e1, fun vs F1 H1 p1 s1 r1 => ⟨by rw [line_eq, da_len r1]; exact hl, fun p hp => ?_⟩⟩
      have gr : Grow F1 H1 F1 (upd H1 p (.lst vs)) := Grow.own s1.sub hp
      exact k p _ _ (p1.trans (gr.stp σ ρ1)) (s1.grow gr) (own_new s1.sub hp r1) (not_owns s1 hp) (p1.none hp)
    · cases e3
end
end Dn
set_option maxHeartbeats 2000000
namespace DnLt
open PySem PySem.SeqAt PyProof.Rows
open AutoSeq1 (wpAny_loadPart')
open MeetsSeq MeetsSeq2 MeetsSeq3 SeqRoads2
def LtAt (A : Around) (s : Shared) : List Value → List Value → Bool → Prop
  | [], [], k => k = false
  | [], _ :: _, k => k = true
  | _ :: _, [], k => k = false
  | v :: vs, w :: ws, k => (EqAt A s v w true ∧ LtAt A s vs ws k) ∨ (EqAt A s v w false ∧ RcLt A s v w k)
theorem ltAt_end {A : Around} {s : Shared} {vs ws : List Value} {k : Bool} (h : LtAt A s vs ws k) (e : vs.zip ws = []) : k = decide (vs.length < ws.length) := by
  cases vs with
  | nil =>
    cases ws with
    | nil => exact h
    | cons w ws =>
      have h1 : k = true := h
      rw [h1]
      exact (decide_eq_true (Nat.succ_pos _)).symm
  | cons v vs =>
    cases ws with
    | nil =>
      have h1 : k = false := h
      rw [h1]
      exact (decide_eq_false (Nat.not_lt_zero _)).symm
    | cons w ws => cases e
theorem tup_meets (l b : Addr) (xs ys : Array Value) (n n2 : Nat) (dd dd2 : Option Addr) (sl sl2 : Array (Option Value)) (k : Bool) :
    Meets (Builtin.«tuple.__lt__» ⟨[.ref l, .ref b], []⟩)
      (fun A R s => (s.heap.get? l = some { cls := .type "tuple", dict := dd, data := .seq xs n, slots := sl } ∧ s.heap.get? b = some { cls := .type "tuple", dict := dd2, data := .seq ys n2, slots := sl2 }) ∧
        LtAt A.in1 s xs.toList ys.toList k ∧ R (.ok (.ret (.bool k))) s) :=
  .of_wp fun prog w A R s h => by
    obtain ⟨hp, gn, dw, tk, os⟩ := s
    obtain ⟨⟨hl, hb⟩, hk, hR⟩ := h
    have f2 := AutoSeq1.sub_tuple_tuple
    wp_walk using wpAny_loadPart' hl, wpAny_loadPart' hb, wpAny_forIn_list _ (fun rest q s' => q.1 = none ∧ s' = ⟨hp, gn, dw, tk, os⟩ ∧ ∃ vs ws, rest = vs.zip ws ∧ LtAt A.in1 ⟨hp, gn, dw, tk, os⟩ vs ws k ∧
      decide (vs.length < ws.length) = decide (xs.size < ys.size)) _
    case turn =>
      rintro ⟨y, x⟩ rest q s' ⟨hq, rfl, vs, ws, hz, hk2, hs⟩
      cases vs with
      | nil => cases hz
      | cons v vs =>
        cases ws with
        | nil => cases hz
        | cons u ws =>
          rw [List.zip_cons_cons] at hz
          injection hz with h1 h2
          injection h1 with h3 h4
          subst h3 h4 h2
          have hs2 : decide (vs.length < ws.length) = decide (xs.size < ys.size) := by
            rw [← hs]
            simp
          rcases hk2 with ⟨e1, e2⟩ | ⟨e1, e2⟩
          · refine wpAny_bind (e1 prog w _ _ ?_)
            wp_walk
            exact ⟨rfl, rfl, vs, ws, rfl, e2, hs2⟩
          · refine wpAny_bind (e1 prog w _ _ ?_)
            have e3 := e2 prog w
            generalize PySem.richCompare = rc at e3 ⊢
            wp_walk
            refine e3 _ _ ?_
            wp_walk
            exact ⟨_, rfl, hR⟩
    case fin =>
      rintro ⟨q1, q2⟩ s' ⟨hq, rfl, vs, ws, hz, hk2, hs⟩
      simp only at hq
      subst hq
      have e := ltAt_end hk2 hz.symm
      rw [hs] at e
      wp_walk
      refine ⟨_, rfl, ?_⟩
      rw [e] at hR
      simpa [Builtin.Tuple.tupleCompareSizes] using hR
    case h =>
      exact ⟨rfl, rfl, xs.toList, ys.toList, by simp, hk, by simp⟩
theorem tup_lt {A : Around} {s : Shared} {l b : Addr} {xs ys : Array Value} {k : Bool} (hl : s.heap.IsTuple l xs) (hb : s.heap.IsTuple b ys) (hu : A.units < cLine) (h : LtAt A.in1 s xs.toList ys.toList k) : RcLt A s (.ref l) (.ref b) k := fun prog w E Q q => by
  obtain ⟨⟨c1, d1, a1, s1⟩, ho, hc, n, hd⟩ := id hl
  obtain ⟨⟨c2, d2, a2, s2⟩, ho2, hc2, n2, hd2⟩ := id hb
  simp only at hc hd hc2 hd2
  subst hc hd hc2 hd2
  refine richCompare_meets_room (op := .Lt) ⟨_, ho, rfl⟩ ⟨_, ho2, rfl⟩ F.slot_tuple_lt F.entry_tuple_lt (F.args_tuple_lt_2 _ _) (tup_meets l b xs ys n n2 d1 d2 s1 s2 k) ⟨⟨ho, ho2⟩, h, ?_⟩ hu
  exact (⟨(fun x => nomatch x), q⟩ : Value.bool k ≠ Value.notImplemented ∧ Q (.bool k) s)
mutual
/-- x < y, where it can be said -/
def ltB : PyData → PyData → Option Bool
  | .int a, .int b => some (decide (a < b))
  | .str a, .str b => some (decide (a.cps.toList < b.cps.toList))
  | .bool a, .bool b => some (!a && b)
  | .tuple xs, .tuple ys => ltA xs ys
  | _, _ => none
def ltA : List PyData → List PyData → Option Bool
  | [], [] => some false
  | [], _ :: _ => some true
  | _ :: _, [] => some false
  | x :: xs, y :: ys => if PyData.eqv x y = true then ltA xs ys else ltB x y
end
theorem units_in1 (A : Around) : A.in1.units = A.units + 1 := rfl
mutual
theorem rc_lt : ∀ (x y : PyData) (A : Around) (s : Shared) (a b : Value) (as bs : List Addr) (k : Bool), Reads s.heap a x as → Reads s.heap b y bs → ltB x y = some k → x.canLay0 = true → y.canLay0 = true → A.units + x.depth < cLine → RcLt A s a b k
  | .int i, y, A, s, a, b, as, bs, k, ra, rb, h, _, _, _ => by
    cases y <;> simp only [ltB, reduceCtorEq, Option.some.injEq] at h
    cases ra
    cases rb
    intro prog w E Q q
    rw [← h] at q
    exact lt_int q
  | .str i, y, A, s, a, b, as, bs, k, ra, rb, h, _, _, _ => by
    cases y <;> simp only [ltB, reduceCtorEq, Option.some.injEq] at h
    cases ra
    cases rb
    intro prog w E Q q
    rw [← h] at q
    exact lt_str q
  | .bool i, .bool j, A, s, a, b, as, bs, k, ra, rb, h, _, _, _ => by
    simp only [ltB, Option.some.injEq] at h
    cases ra
    cases rb
    intro prog w E Q q
    rw [← h] at q
    have e : (!i && j) = decide ((if i then (1 : Int) else 0) < (if j then 1 else 0)) := by cases i <;> cases j <;> rfl
    rw [e] at q
    exact lt_bool q
  | .bool _, .none, _, _, _, _, _, _, _, _, _, h, _, _, _ => by simp [ltB] at h
  | .bool _, .int _, _, _, _, _, _, _, _, _, _, h, _, _, _ => by simp [ltB] at h
  | .bool _, .str _, _, _, _, _, _, _, _, _, _, h, _, _, _ => by simp [ltB] at h
  | .bool _, .list _, _, _, _, _, _, _, _, _, _, h, _, _, _ => by simp [ltB] at h
  | .bool _, .tuple _, _, _, _, _, _, _, _, _, _, h, _, _, _ => by simp [ltB] at h
  | .bool _, .dict _, _, _, _, _, _, _, _, _, _, h, _, _, _ => by simp [ltB] at h
  | .tuple xs, y, A, s, a, b, as, bs, k, ra, rb, h, c1, c2, hu => by
    cases y <;> simp [ltB] at h
    rename_i ys
    cases ra with
    | tuple k1 k2 k3 k4 =>
      cases rb with
      | tuple m1 m2 m3 m4 =>
        have hd : A.units + (PyData.depthAll xs + 1) < cLine := by simpa [PyData.depth] using hu
        exact tup_lt ⟨_, k1, k2, _, k3⟩ ⟨_, m1, m2, _, m3⟩ (by omega) (rc_ltA xs ys A.in1 s _ _ _ _ k k4 m4 h (by simpa [PyData.canLay0] using c1) (by simpa [PyData.canLay0] using c2) (by rw [units_in1]; omega))
  | .none, y, _, _, _, _, _, _, _, _, _, h, _, _, _ => by cases y <;> simp [ltB] at h
  | .list _, y, _, _, _, _, _, _, _, _, _, h, _, _, _ => by cases y <;> simp [ltB] at h
  | .dict _, y, _, _, _, _, _, _, _, _, _, h, _, _, _ => by cases y <;> simp [ltB] at h
theorem rc_ltA : ∀ (xs ys : List PyData) (A : Around) (s : Shared) (vs ws : List Value) (as bs : List Addr) (k : Bool), ReadsAll s.heap vs xs as → ReadsAll s.heap ws ys bs → ltA xs ys = some k → PyData.canLayAll0 xs = true → PyData.canLayAll0 ys = true →
    A.units + PyData.depthAll xs < cLine → LtAt A s vs ws k
  | [], [], A, s, _, _, _, _, k, ra, rb, h, _, _, _ => by
    cases ra
    cases rb
    simp only [ltA, Option.some.injEq] at h
    exact (show k = false from h.symm)
  | [], _ :: _, A, s, _, _, _, _, k, ra, rb, h, _, _, _ => by
    cases ra
    cases rb
    simp only [ltA, Option.some.injEq] at h
    exact (show k = true from h.symm)
  | _ :: _, [], A, s, _, _, _, _, k, ra, rb, h, _, _, _ => by
    cases ra
    cases rb
    simp only [ltA, Option.some.injEq] at h
    exact (show k = false from h.symm)
  | x :: xs, y :: ys, A, s, _, _, _, _, k, ra, rb, h, c1, c2, hu => by
    have d1 : x.canLay0 = true ∧ PyData.canLayAll0 xs = true := by simpa [PyData.canLayAll0] using c1
    have d2 : y.canLay0 = true ∧ PyData.canLayAll0 ys = true := by simpa [PyData.canLayAll0] using c2
    have hd : A.units + max x.depth (PyData.depthAll xs) < cLine := by simpa [PyData.depthAll] using hu
    cases ra with
    | cons r rs =>
      cases rb with
      | cons t ts =>
        have e := eqAt_reads x y A s _ _ _ _ r t d1.1 d2.1 (by omega)
        rw [ltA] at h
        by_cases q : PyData.eqv x y = true
        · rw [if_pos q] at h
          rw [q] at e
          exact .inl ⟨e, rc_ltA xs ys A s _ _ _ _ k rs ts h d1.2 d2.2 (by omega)⟩
        · rw [if_neg q] at h
          have q' : PyData.eqv x y = false := by simpa using q
          rw [q'] at e
          exact .inr ⟨e, rc_lt x y A s _ _ _ _ k r t h d1.1 d2.1 (by omega)⟩
end
end DnLt
set_option maxHeartbeats 2000000
namespace Dn
open PySem PySem.Spec PyProof.Rows L2
def addD : D → D → Option D
  | .int i, .int j => some (.int (i + j))
  | .str a, .str b => if a.length + b.length ≤ 16777216 then some (.str (a ++ b)) else none
  | .list a, .list b => if a.length + b.length ≤ 16777216 then some (.list (a ++ b)) else none
  | .tuple a, .tuple b => if a.length + b.length ≤ 16777216 then some (.tuple (a ++ b)) else none
  | _, _ => none
def subD : D → D → Option D
  | .int i, .int j => some (.int (i - j))
  | _, _ => none
def mulD : D → D → Option D
  | .int i, .int j => if i.natAbs.log2 + j.natAbs.log2 < 1000000 then some (.int (i * j)) else none
  | _, _ => none
/-- a product with a factor of less than 64 bits -/
def mulS : D → D → Option D
  | .int i, .int j => if -(2 ^ 64) < j ∧ j < 2 ^ 64 then some (.int (i * j)) else none
  | _, _ => none
def modD : D → D → Option D
  | .int i, .int j => if 0 < j then some (.int (i % j)) else none
  | _, _ => none
def fdivD : D → D → Option D
  | .int i, .int j => if 0 < j ∧ j < 18446744073709551616 then some (.int (i / j)) else none
  | _, _ => none
def negD : D → Option D
  | .int i => some (.int (-i))
  | _ => none
/-- the same, as Python's == says it -/
def eqT (d e : D) : Option Bool := match d, e with
  | .int a, .int b => some (decide (a = b))
  | .str a, .str b => some (decide (a = b))
  | .bool a, .bool b => some (decide (a = b))
  | .none, .none => some true
  | d, e => if SeqAt.shaped d = true ∧ SeqAt.shaped e = true then some (PyData.eqv d e) else none
def eqD (d e : D) : Option D := (eqT d e).bind fun b => some (.bool b)
def neD (d e : D) : Option D := (eqT d e).bind fun b => some (.bool (!b))
def ltT (d e : D) : Option Bool := match d, e with
  | .int a, .int b => some (decide (a < b))
  | .str a, .str b => some (decide (a.cps.toList < b.cps.toList))
  | d, e => if SeqAt.shaped d = true ∧ SeqAt.shaped e = true then DnLt.ltB d e else none
def ltD (d e : D) : Option D := (ltT d e).bind fun b => some (.bool b)
def leD : D → D → Option D
  | .int a, .int b => some (.bool (decide (a ≤ b)))
  | _, _ => none
def gtD : D → D → Option D
  | .int a, .int b => some (.bool (decide (b < a)))
  | _, _ => none
def geD : D → D → Option D
  | .int a, .int b => some (.bool (decide (b ≤ a)))
  | _, _ => none
def isN : D → Bool
  | .none => true
  | _ => false
def isD (d e : D) : Option D := match d, e with
  | d, .none => some (.bool (isN d))
  | .bool a, .bool b => some (.bool (decide (a = b)))
  | _, _ => none
def isntD (d e : D) : Option D := match d, e with
  | d, .none => some (.bool (!isN d))
  | .bool a, .bool b => some (.bool (!decide (a = b)))
  | _, _ => none
section
variable {X : Cx}
theorem op_addD : OpR X (binaryOp .Add) (rP2 (cxK X) addD) := by
  intro pins s σ H x y v u Q I rx ry h
  obtain ⟨F, d, e, r, sf, hd, he, ef, k⟩ := h
  unfold addD at ef
  split at ef
  · cases ef
    cases hd
    cases he
    exact op_add pins s σ H _ _ v u Q I rx ry ⟨_, _, rfl, rfl, k _ F H (Grow.refl sf) (.int _)⟩
  · split at ef
    · rename_i hl
      cases ef
      cases hd
      cases he
      exact op_add_str pins s σ H _ _ v u Q I rx ry ⟨_, _, rfl, rfl, by rw [line_eq]; exact hl, k _ F H (Grow.refl sf) (.str _)⟩
    · cases ef
  · split at ef
    · rename_i as bs hl
      cases ef
      cases hd with
      | lst h1 d1 =>
        cases he with
        | lst h2 d2 =>
          cases rx
          cases ry
          rename_i l xs b ys
          obtain ⟨its, r1, p1, z1⟩ := I.list (sf.seq h1)
          obtain ⟨its2, r2, p2, z2⟩ := I.list (sf.seq h2)
          obtain ⟨o1, n1, g1, c1, q1, t1⟩ := p1
          obtain ⟨o2, n2, g2, c2, q2, t2⟩ := p2
          obtain ⟨cls, dd, data, sl⟩ := o1
          obtain ⟨cls2, dd2, data2, sl2⟩ := o2
          simp only at c1 q1 t1 c2 q2 t2
          subst c1 q1 t1 c2 q2 t2
          have hsz : xs.length + ys.length ≤ sizeLine := by rw [line_eq, da_len d1, da_len d2]; exact hl
          refine concat_meets ⟨_, g1, rfl⟩ ⟨_, g2, rfl⟩ noFill_list_add seq_list_add PySem.F.slot_list_add PySem.F.entry_list_add (PySem.F.args_list_add_2 _ _)
            (list_addW l b its.toArray its2.toArray n1 n2 none none sl sl2 (by simpa [← r1.length, ← r2.length] using hsz)) ⟨g1, g2, ?_⟩
          have ea : its.toArray ++ its2.toArray = (its ++ its2).toArray := by simp
          rw [ea]
          have gr : Grow F H (upd F s.heap.objs.size (.lst (xs ++ ys))) (upd H s.heap.objs.size (.lst (xs ++ ys))) := Grow.val sf I.fresh
          exact ⟨.ref _, _, I.lnew (t' := s.toks) (r1.append r2) (by rw [List.length_append]; exact hsz), rfl, k _ _ _ gr (.lst (.inl (.inl upd_same)) (dpAll_mono gr.ff _ _ (da_app d1 d2)))⟩
    · cases ef
  · split at ef
    · rename_i as bs hl
      cases ef
      cases hd with
      | tup h1 d1 =>
        cases he with
        | tup h2 d2 =>
          rename_i a xs b ys
          have hsz : xs.length + ys.length ≤ sizeLine := by rw [line_eq, da_len d1, da_len d2]; exact hl
          refine op_catA pins s σ H _ _ v u Q I rx ry ⟨a, b, xs, ys, rfl, rfl, seqT_same sf h1, seqT_same sf h2, hsz, fun e => ?_, fun _ e => ?_, fun _ _ p hp => ?_⟩
          · subst e
            cases d1
            exact k _ F H (Grow.refl sf) (.tup h2 d2)
          · subst e
            cases d2
            rw [List.append_nil] at k
            exact k _ F H (Grow.refl sf) (.tup h1 d1)
          · have gr : Grow F H (upd F p (.tup (xs ++ ys))) (upd H p (.tup (xs ++ ys))) := Grow.val sf hp
            exact k _ _ _ gr (.tup (.inl (.inl upd_same)) (dpAll_mono gr.ff _ _ (da_app d1 d2)))
    · cases ef
  · cases ef
theorem op_mulD : OpR X (binaryOp .Mult) (rP2 (cxK X) mulD) := by
  intro pins s σ H x y v u Q I rx ry h
  obtain ⟨F, d, e, r, sf, hd, he, ef, k⟩ := h
  unfold mulD at ef
  split at ef
  · split at ef
    · rename_i hl
      cases ef
      cases hd
      cases he
      exact op_mulW pins s σ H _ _ v u Q I rx ry ⟨_, _, rfl, rfl, hl, k _ F H (Grow.refl sf) (.int _)⟩
    · cases ef
  · cases ef
theorem op_mulS : OpR X (binaryOp .Mult) (rP2 (cxK X) mulS) := by
  intro pins s σ H x y v u Q I rx ry h
  obtain ⟨F, d, e, r, sf, hd, he, ef, k⟩ := h
  unfold mulS at ef
  split at ef
  · split at ef
    · rename_i hl
      cases ef
      cases hd
      cases he
      exact op_mul pins s σ H _ _ v u Q I rx ry ⟨_, _, rfl, rfl, .inr hl, k _ F H (Grow.refl sf) (.int _)⟩
    · cases ef
  · cases ef
theorem op_modD : OpR X (binaryOp .Mod) (rP2 (cxK X) modD) := by
  intro pins s σ H x y v u Q I rx ry h
  obtain ⟨F, d, e, r, sf, hd, he, ef, k⟩ := h
  unfold modD at ef
  split at ef
  · split at ef
    · rename_i hl
      cases ef
      cases hd
      cases he
      exact op_mod pins s σ H _ _ v u Q I rx ry ⟨_, _, rfl, rfl, hl, k _ F H (Grow.refl sf) (.int _)⟩
    · cases ef
  · cases ef
theorem log_64 {j : Int} (h0 : 0 < j) (h : j < 18446744073709551616) : j.natAbs.log2 < 9000 := by
  have z : j.natAbs ≠ 0 := by omega
  have h1 : j.natAbs < 2 ^ 64 := by omega
  exact Nat.lt_of_lt_of_le ((Nat.log2_lt z).mpr h1) (by decide)
theorem op_fdivD : OpR X (binaryOp .FloorDiv) (rP2 (cxK X) fdivD) := by
  intro pins s σ H x y v u Q I rx ry h
  obtain ⟨F, d, e, r, sf, hd, he, ef, k⟩ := h
  unfold fdivD at ef
  split at ef
  · split at ef
    · rename_i hl
      cases ef
      cases hd
      cases he
      exact op_fdivW pins s σ H _ _ v u Q I rx ry ⟨_, _, rfl, rfl, ⟨hl.1, log_64 hl.1 hl.2⟩, k _ F H (Grow.refl sf) (.int _)⟩
    · cases ef
  · cases ef
theorem un_negD : UnR X (unaryOp .USub) (rP1 (cxK X) negD) := by
  intro pins s σ H x v Q I rx h
  obtain ⟨F, d, r, sf, hd, ef, k⟩ := h
  unfold negD at ef
  split at ef
  · cases ef
    cases hd
    exact un_neg pins s σ H _ v Q I rx ⟨_, rfl, k _ F H (Grow.refl sf) (.int _)⟩
  · cases ef
theorem op_eqD' (hu : X.A.units + 64 < cLine) : OpR X (compareOp .Eq) (rP2 (cxK X) eqD) := by
  intro pins s σ H x y v u Q I rx ry h
  obtain ⟨F, d, e, r, sf, hd, he, ef, k⟩ := h
  obtain ⟨b, e1, e2⟩ := bind_some ef
  cases e2
  have q := k (.bl b) F H (Grow.refl sf) (.bl _)
  unfold eqT at e1
  split at e1
  · cases e1
    cases hd
    cases he
    refine op_eq pins s σ H _ _ v u Q I rx ry ⟨rfl, ?_⟩
    rw [dec_int, Bool.beq_eq_decide_eq]
    exact q
  · cases e1
    cases hd
    cases he
    refine op_eq pins s σ H _ _ v u Q I rx ry ⟨rfl, ?_⟩
    rw [dec_str, Bool.beq_eq_decide_eq]
    exact q
  · cases e1
    cases hd
    cases he
    refine op_eq pins s σ H _ _ v u Q I rx ry ⟨rfl, ?_⟩
    rw [dec_bl, Bool.beq_eq_decide_eq]
    exact q
  · cases e1
    cases hd
    cases he
    exact op_eq pins s σ H _ _ v u Q I rx ry ⟨rfl, q⟩
  · split at e1
    · rename_i hs
      cases e1
      exact op_eqD hu pins s σ H _ _ v u Q I rx ry ⟨d, e, rp_dp (dp_mono sf _ _ hd) (SeqAt.canLay_of_shaped hs.1), rp_dp (dp_mono sf _ _ he) (SeqAt.canLay_of_shaped hs.2), hs.1, hs.2, q⟩
    · cases e1
theorem op_neD' (hu : X.A.units + 64 < cLine) : OpR X (compareOp .NotEq) (rP2 (cxK X) neD) := by
  intro pins s σ H x y v u Q I rx ry h
  obtain ⟨F, d, e, r, sf, hd, he, ef, k⟩ := h
  obtain ⟨b, e1, e2⟩ := bind_some ef
  cases e2
  have q := k (.bl (!b)) F H (Grow.refl sf) (.bl _)
  unfold eqT at e1
  split at e1
  · cases e1
    cases hd
    cases he
    refine op_ne pins s σ H _ _ v u Q I rx ry ⟨rfl, ?_⟩
    rw [dec_int, Bool.beq_eq_decide_eq]
    exact q
  · cases e1
    cases hd
    cases he
    refine op_ne pins s σ H _ _ v u Q I rx ry ⟨rfl, ?_⟩
    rw [dec_str, Bool.beq_eq_decide_eq]
    exact q
  · cases e1
    cases hd
    cases he
    refine op_ne pins s σ H _ _ v u Q I rx ry ⟨rfl, ?_⟩
    rw [dec_bl, Bool.beq_eq_decide_eq]
    exact q
  · cases e1
    cases hd
    cases he
    exact op_ne pins s σ H _ _ v u Q I rx ry ⟨rfl, q⟩
  · split at e1
    · rename_i hs
      cases e1
      exact op_neD hu pins s σ H _ _ v u Q I rx ry ⟨d, e, rp_dp (dp_mono sf _ _ hd) (SeqAt.canLay_of_shaped hs.1), rp_dp (dp_mono sf _ _ he) (SeqAt.canLay_of_shaped hs.2), hs.1, hs.2, q⟩
    · cases e1
theorem op_ltD (hu : X.A.units + 64 < cLine) : OpR X (compareOp .Lt) (rP2 (cxK X) ltD) := by
  intro pins s σ H x y v u Q I rx ry h
  obtain ⟨F, d, e, r, sf, hd, he, ef, k⟩ := h
  obtain ⟨b, e1, e2⟩ := bind_some ef
  cases e2
  have q := k (.bl b) F H (Grow.refl sf) (.bl _)
  unfold ltT at e1
  split at e1
  · cases e1
    cases hd
    cases he
    exact op_lt pins s σ H _ _ v u Q I rx ry ⟨_, _, rfl, rfl, q⟩
  · cases e1
    cases hd
    cases he
    exact op_lt_str pins s σ H _ _ v u Q I rx ry ⟨_, _, rfl, rfl, q⟩
  · split at e1
    · rename_i hs
      obtain ⟨as, r1⟩ := Dp.reads I d x v (rp_dp (dp_mono sf _ _ hd) (SeqAt.canLay_of_shaped hs.1)) rx
      obtain ⟨bs, r2⟩ := Dp.reads I e y u (rp_dp (dp_mono sf _ _ he) (SeqAt.canLay_of_shaped hs.2)) ry
      have hdp := SeqAt.depth_of_shaped hs.1
      exact DnLt.rc_lt d e X.A s v u as bs b r1 r2 e1 (SeqAt.canLay_of_shaped hs.1) (SeqAt.canLay_of_shaped hs.2) (by omega) X.prog X.w _ _ ⟨.bl b, H, I, rfl, q⟩
    · cases e1
theorem op_leD : OpR X (compareOp .LtE) (rP2 (cxK X) leD) := by
  intro pins s σ H x y v u Q I rx ry h
  obtain ⟨F, d, e, r, sf, hd, he, ef, k⟩ := h
  unfold leD at ef
  split at ef
  · cases ef
    cases hd
    cases he
    exact op_le pins s σ H _ _ v u Q I rx ry ⟨_, _, rfl, rfl, k _ F H (Grow.refl sf) (.bl _)⟩
  · cases ef
theorem op_gtD : OpR X (compareOp .Gt) (rP2 (cxK X) gtD) := by
  intro pins s σ H x y v u Q I rx ry h
  obtain ⟨F, d, e, r, sf, hd, he, ef, k⟩ := h
  unfold gtD at ef
  split at ef
  · cases ef
    cases hd
    cases he
    exact op_gt pins s σ H _ _ v u Q I rx ry ⟨_, _, rfl, rfl, k _ F H (Grow.refl sf) (.bl _)⟩
  · cases ef
end
def ixA {α : Type} (xs : List α) (i : Int) : Option α := if 0 ≤ i then xs[i.toNat]? else if -(xs.length : Int) ≤ i then xs[(i + xs.length).toNat]? else none
def ixD : D → D → Option D
  | .list xs, .int i => ixA xs i
  | .tuple xs, .int i => ixA xs i
  | _, _ => none
theorem ixA_at {α : Type} {xs : List α} {i : Int} {x : α} (h : ixA xs i = some x) : atI xs i = some x := by
  unfold ixA at h
  unfold atI ixN
  split at h
  · rename_i h0
    have hl : i.toNat < xs.length := (List.getElem?_eq_some_iff.mp h).1
    rw [if_pos h0, if_pos (by omega)]
    exact h
  · rename_i h0
    split at h
    · rename_i h1
      rw [if_neg h0, if_pos h1]
      exact h
    · cases h
theorem da_ix {K : Kx} {F : Hp} {vs : List V} {ds : List D} {i : Int} {d : D} (r : RpAll K F vs ds) (h : ixA ds i = some d) : ∃ v, ixA vs i = some v ∧ Rp K F v d := by
  have hl := da_len r
  unfold ixA at h ⊢
  split at h
  · rename_i h0
    rw [if_pos h0]
    exact da_at r h
  · rename_i h0
    rw [if_neg h0]
    split at h
    · rename_i h1
      rw [if_pos (by rw [hl]; exact h1), hl]
      exact da_at r h
    · cases h
section
variable {X : Cx}
theorem ix_D : IxR X (rP2 (cxK X) ixD) := by
  intro value slice pins s σ H x y v u Q I rx ry h hs
  obtain ⟨F, d, e, r, sf, hd, he, ef, k⟩ := h
  unfold ixD at ef
  split at ef
  · cases he
    cases hd with
    | lst h1 d1 =>
      obtain ⟨z, e1, rz⟩ := da_ix d1 ef
      exact ix_list value slice pins s σ H _ _ v u Q I rx ry ⟨_, _, _, z, rfl, rfl, sf.seq h1, ixA_at e1, k z F H (Grow.refl sf) rz⟩ hs
  · cases he
    cases hd with
    | tup h1 d1 =>
      obtain ⟨z, e1, rz⟩ := da_ix d1 ef
      exact ix_tup value slice pins s σ H _ _ v u Q I rx ry ⟨_, _, _, z, rfl, rfl, seqT_same sf h1, ixA_at e1, k z F H (Grow.refl sf) rz⟩ hs
  · cases ef
end
def gNoP : Md (Option Int) := fun ρ => some (none, ρ)
def iOf : D → Option Int
  | .int i => some i
  | _ => none
def gPart (g : Md D) : Md (Option Int) := fun ρ => (g ρ).bind fun p => (iOf p.1).bind fun i => some (some i, p.2)
theorem iOf_some {d : D} {i : Int} (h : iOf d = some i) : d = .int i := by
  cases d <;> simp [iOf] at h
  subst h
  rfl
def cutA {α : Type} (xs : List α) (lo hi : Option Int) : List α := (xs.drop (HT.sIx xs.length 0 lo)).take (HT.sIx xs.length xs.length hi - HT.sIx xs.length 0 lo)
def cutD (d : D) (lo hi : Option Int) : Option D := match d with
  | .list xs => some (.list (cutA xs lo hi))
  | .tuple xs => some (.tuple (cutA xs lo hi))
  | _ => none
def gSl (ga : Md D) (gl gh : Md (Option Int)) : Md D := fun ρ => (ga ρ).bind fun p => (gl p.2).bind fun q => (gh q.2).bind fun r => (cutD p.1 q.1 r.1).bind fun d => some (d, r.2)
def lenF : List D → Option D
  | [.list xs] => some (.int xs.length)
  | [.tuple xs] => some (.int xs.length)
  | [.str x] => if x.length ≤ 16777216 then some (.int x.length) else none
  | _ => none
def intF : List D → Option D
  | [.int i] => some (.int i)
  | [.bool b] => some (.int (if b then 1 else 0))
  | _ => none
def absF : List D → Option D
  | [.int i] => some (.int (if i < 0 then -i else i))
  | _ => none
def maxF : List D → Option D
  | [.int i, .int j] => some (.int (if j > i then j else i))
  | _ => none
def minF : List D → Option D
  | [.int i, .int j] => some (.int (if j < i then j else i))
  | _ => none
def tupF : List D → Option D
  | [.list xs] => some (.tuple xs)
  | [.tuple xs] => some (.tuple xs)
  | _ => none
def lstF : List D → Option D
  | [.list xs] => some (.list xs)
  | [.tuple xs] => some (.list xs)
  | _ => none
def strF : List D → Option D
  | [.int i] => if i.natAbs.log2 < 1920 then some (.str (toString i)) else none
  | _ => none
def ordF : List D → Option D
  | [.str x] => if x.length = 1 then some (.int (x.cps.getD 0 0 : Nat)) else none
  | _ => none
section
variable {X : Cx}
theorem da1 {K : Kx} {F : Hp} {vs : List V} {d : D} (h : RpAll K F vs [d]) : ∃ v, vs = [v] ∧ Rp K F v d := by
  cases h with
  | cons h t =>
    cases t
    exact ⟨_, rfl, h⟩
theorem da2 {K : Kx} {F : Hp} {vs : List V} {d e : D} (h : RpAll K F vs [d, e]) : ∃ v w, vs = [v, w] ∧ Rp K F v d ∧ Rp K F w e := by
  cases h with
  | cons h t =>
    obtain ⟨w, rfl, r⟩ := da1 t
    exact ⟨_, w, rfl, h, r⟩
theorem call_lenD : CallR X (.builtin "len") (rPn (cxK X) lenF) := by
  intro pins s σ H xs us Q I rx h
  obtain ⟨F, ds, r, sf, hd, ef, k⟩ := h
  unfold lenF at ef
  split at ef
  · cases ef
    obtain ⟨v, rfl, hv⟩ := da1 hd
    cases hv with
    | lst h1 d1 => exact call_len_seq pins s σ H _ us Q I rx ⟨_, _, rfl, .inl (sf.seq h1), by rw [da_len d1]; exact k _ F H (Grow.refl sf) (.int _)⟩
  · cases ef
    obtain ⟨v, rfl, hv⟩ := da1 hd
    cases hv with
    | tup h1 d1 => exact call_len_seq pins s σ H _ us Q I rx ⟨_, _, rfl, .inr (seqT_same sf h1), by rw [da_len d1]; exact k _ F H (Grow.refl sf) (.int _)⟩
  · split at ef
    · rename_i hl
      cases ef
      obtain ⟨v, rfl, hv⟩ := da1 hd
      cases hv
      exact call_len_str pins s σ H _ us Q I rx ⟨_, rfl, by rw [line_eq]; exact hl, k _ F H (Grow.refl sf) (.int _)⟩
    · cases ef
  · cases ef
theorem call_intD : CallR X (.type "int") (rPn (cxK X) intF) := by
  intro pins s σ H xs us Q I rx h
  obtain ⟨F, ds, r, sf, hd, ef, k⟩ := h
  unfold intF at ef
  split at ef
  · cases ef
    obtain ⟨v, rfl, hv⟩ := da1 hd
    cases hv
    exact call_int1 pins s σ H _ us Q I rx (.inl ⟨_, rfl, k _ F H (Grow.refl sf) (.int _)⟩)
  · cases ef
    obtain ⟨v, rfl, hv⟩ := da1 hd
    cases hv
    exact call_int1 pins s σ H _ us Q I rx (.inr ⟨_, rfl, k _ F H (Grow.refl sf) (.int _)⟩)
  · cases ef
theorem call_absD : CallR X (.builtin "abs") (rPn (cxK X) absF) := by
  intro pins s σ H xs us Q I rx h
  obtain ⟨F, ds, r, sf, hd, ef, k⟩ := h
  unfold absF at ef
  split at ef
  · cases ef
    obtain ⟨v, rfl, hv⟩ := da1 hd
    cases hv
    exact call_abs pins s σ H _ us Q I rx ⟨_, rfl, k _ F H (Grow.refl sf) (.int _)⟩
  · cases ef
theorem call_maxD (hc : X.calm = true) : CallR X (.builtin "max") (rPn (cxK X) maxF) := by
  intro pins s σ H xs us Q I rx h
  obtain ⟨F, ds, r, sf, hd, ef, k⟩ := h
  unfold maxF at ef
  split at ef
  · cases ef
    obtain ⟨v, w, rfl, hv, hw⟩ := da2 hd
    cases hv
    cases hw
    exact call_max2 hc pins s σ H _ us Q I rx ⟨_, _, rfl, k _ F H (Grow.refl sf) (.int _)⟩
  · cases ef
theorem call_minD (hc : X.calm = true) : CallR X (.builtin "min") (rPn (cxK X) minF) := by
  intro pins s σ H xs us Q I rx h
  obtain ⟨F, ds, r, sf, hd, ef, k⟩ := h
  unfold minF at ef
  split at ef
  · cases ef
    obtain ⟨v, w, rfl, hv, hw⟩ := da2 hd
    cases hv
    cases hw
    exact call_min2 hc pins s σ H _ us Q I rx ⟨_, _, rfl, k _ F H (Grow.refl sf) (.int _)⟩
  · cases ef
theorem call_strD : CallR X (.type "str") (rPn (cxK X) strF) := by
  intro pins s σ H xs us Q I rx h
  obtain ⟨F, ds, r, sf, hd, ef, k⟩ := h
  unfold strF at ef
  split at ef
  · split at ef
    · rename_i hl
      cases ef
      obtain ⟨v, rfl, hv⟩ := da1 hd
      cases hv
      exact call_str_int pins s σ H _ us Q I rx ⟨_, rfl, hl, k _ F H (Grow.refl sf) (.str _)⟩
    · cases ef
  · cases ef
end
/-- the built-in class of a datum -/
def tyD : D → String
  | .none => "NoneType"
  | .bool _ => "bool"
  | .int _ => "int"
  | .str _ => "str"
  | .list _ => "list"
  | .tuple _ => "tuple"
  | .dict _ => "dict"
/-- its type is told by the datum -/
def tyOk : D → Bool
  | .dict ((.int _, _) :: _) => true
  | .dict ((.str _, _) :: _) => true
  | .dict _ => false
  | _ => true
def isiF (T : String) : List D → Option D
  | [d] => if tyOk d = true then (kitB (tyD d) T).bind fun b => some (.bool b) else none
  | _ => none
end Dn
set_option maxHeartbeats 2000000
namespace Dn
open PySem PySem.Spec PyProof.Rows L2
section
variable {X : Cx} {e a b c : Expr} {es : List Expr} {pos p cpos apos : Pos} {x : Str}
theorem app_q {r : List V → Hp → VK → Prop} {f : List D → Option D} {gs : Md (List D)} (hr : r = rPn (cxK X) f) {σ : L2.St} {H : Hp} {Q : VK} (q : tD (cxK X) (gApp f gs) σ H Q) : tDA (cxK X) gs σ H fun vs H1 => r vs H1 Q := by
  subst hr
  obtain ⟨F, ρ, d, ρ', s, eg, k⟩ := q
  obtain ⟨⟨ds, ρ1⟩, e1, eg1⟩ := bind_some eg
  obtain ⟨z, e3, eg2⟩ := bind_some eg1
  cases eg2
  exact ⟨F, ρ, ds, _, s, e1, fun vs F1 H1 p1 s1 r1 => ⟨F1, ds, _, s1.sub, r1, e3, fun w F3 H3 gr rw' => k w F3 H3 (p1.trans (gr.stp σ _)) (s1.grow gr) rw'⟩⟩
theorem de_callB {id : String} {f : List D → Option D} {gs : Md (List D)} (hc : CallR X (.builtin id) (rPn (cxK X) f)) (hg : Gl X x) (hm : X.mg x = none) (hv : bootBuiltins x = some (.builtin id)) (ha : DA X (e :: es) gs) (hn : x ≠ "__name__" := by decide) (hdb : (x == ("__debug__" : Str)) = false := by decide)
    (he : starEach (e :: es) X.env = (false, eval e X.env) :: starEach es X.env := by rfl) (hpl : (backTo pos (starEach es X.env)).any (·.1) = false := by rfl) : DE X (.Call (.Name x p) (e :: es) [] pos) (gApp f gs) :=
  pe_imp (pe_callB hc hg hm hv ha hn hdb he hpl) fun _ _ _ q => app_q rfl q
theorem de_callTy {T : String} {f : List D → Option D} {gs : Md (List D)} (hc : CallR X (.type T) (rPn (cxK X) f)) (hg : Gl X x) (hm : X.mg x = none) (hv : bootBuiltins x = some (.type T)) (ha : DA X (e :: es) gs) (hn : x ≠ "__name__" := by decide) (hdb : (x == ("__debug__" : Str)) = false := by decide)
    (he : starEach (e :: es) X.env = (false, eval e X.env) :: starEach es X.env := by rfl) (hpl : (backTo pos (starEach es X.env)).any (·.1) = false := by rfl) : DE X (.Call (.Name x p) (e :: es) [] pos) (gApp f gs) :=
  pe_imp (pe_callTy hc hg hm hv ha hn hdb he hpl) fun _ _ _ q => app_q rfl q
def spV (K : Kx) (n : Nat) (f : List D → Option D) : Sp := fun vs H Q _ => vs.length = n ∧ rPn K f vs H Q
/-- .. whose first argument is a list that is changed -/
def spIO (K : Kx) (n : Nat) (f : D → List D → Option (D × D)) : Sp := fun vs H Q _ => vs.length = n ∧ ∃ (F : Hp) (a : Addr) (ws : List V) (d : D) (ds : List D) (r d' : D), vs = .ref a :: ws ∧ Same F H ∧ OwnAt K F H a d ∧ RpAll K F ws ds ∧ f d ds = some (r, d') ∧
  ∀ v F' H', Same F F' → Same F' H' → (∀ b o, H b = some o → b ≠ a → H' b = some o ∧ F' b = F b) → OwnAt K F' H' a d' → Rp K F' v r → Q v H'
theorem de_call {k n : Nat} {f : Addr} {fd : FuncData} {ps : List Str} {g : List D → Option D} {gs : Md (List D)} (G : FnOk X.prog X.w X.K X.mg X.base CX0 k f fd ps (spV (cxK X) n g)) (hr : Room k X.A) (hg : Gl X x) (hm : X.mg x = some (.ref f)) (hk : PySem.W.keepIn X.K (.ref f) = true) (hb : Binds X.K fd ps []) (hn : (e :: es).length = n) (ha : DA X (e :: es) gs) (hlen : ∀ ρ ds ρ', gs ρ = some (ds, ρ') → ds.length = n)
    (hdb : (x == ("__debug__" : Str)) = false := by decide) (he : starEach (e :: es) X.env = (false, eval e X.env) :: starEach es X.env := by rfl) (hpl : (backTo pos (starEach es X.env)).any (·.1) = false := by rfl) : DE X (.Call (.Name x p) (e :: es) [] pos) (gApp g gs) :=
  pe_imp (pe_call G hr hg hm hk hb .nil pass0 ha hdb he hpl) fun σ H Q q => by
    obtain ⟨F, ρ, d, ρ', s, eg, k⟩ := q
    obtain ⟨⟨ds, ρ1⟩, e1, eg1⟩ := bind_some eg
    obtain ⟨z, e3, eg2⟩ := bind_some eg1
    cases eg2
    exact ⟨F, ρ, ds, _, s, e1, fun vs F1 H1 p1 s1 r1 => ⟨by rw [List.append_nil, da_len r1]; exact hlen _ _ _ e1, F1, ds, _, s1.sub, by rw [List.append_nil]; exact r1, e3, fun w F3 H3 gr rw' => k w F3 H3 (p1.trans (gr.stp σ _)) (s1.grow gr) rw'⟩⟩
/-- .. that hands back a new list of the caller's own -/
def spF (K : Kx) (n : Nat) (f : List D → Option D) : Sp := fun vs H Q _ => vs.length = n ∧ rFn K f vs H Q
theorem df_call {k n : Nat} {f : Addr} {fd : FuncData} {ps : List Str} {g : List D → Option D} {gs : Md (List D)} (G : FnOk X.prog X.w X.K X.mg X.base CX0 k f fd ps (spF (cxK X) n g)) (hr : Room k X.A) (hg : Gl X x) (hm : X.mg x = some (.ref f)) (hk : PySem.W.keepIn X.K (.ref f) = true) (hb : Binds X.K fd ps []) (hn : (e :: es).length = n) (ha : DA X (e :: es) gs) (hlen : ∀ ρ ds ρ', gs ρ = some (ds, ρ') → ds.length = n)
    (hdb : (x == ("__debug__" : Str)) = false := by decide) (he : starEach (e :: es) X.env = (false, eval e X.env) :: starEach es X.env := by rfl) (hpl : (backTo pos (starEach es X.env)).any (·.1) = false := by rfl) : DF X (.Call (.Name x p) (e :: es) [] pos) (gApp g gs) :=
  pe_imp (pe_call G hr hg hm hk hb .nil pass0 ha hdb he hpl) fun σ H Q q => by
    obtain ⟨F, ρ, d, ρ', s, eg, k⟩ := q
    obtain ⟨⟨ds, ρ1⟩, e1, eg1⟩ := bind_some eg
    obtain ⟨z, e3, eg2⟩ := bind_some eg1
    cases eg2
    exact ⟨F, ρ, ds, _, s, e1, fun vs F1 H1 p1 s1 r1 => ⟨by rw [List.append_nil, da_len r1]; exact hlen _ _ _ e1, F1, ds, _, s1.sub, by rw [List.append_nil]; exact r1, e3, fun a F3 H3 gr o hn => k a F3 H3 (p1.trans (gr.stp σ _)) (s1.grow gr) o (not_owns s1 hn) (p1.none hn)⟩⟩
theorem len_nil : ∀ ρ ds ρ', gNil ρ = some (ds, ρ') → ds.length = 0 := fun ρ ds ρ' h => by
  cases h
  rfl
theorem len_cons {g : Md D} {gs : Md (List D)} {n : Nat} (h : ∀ ρ ds ρ', gs ρ = some (ds, ρ') → ds.length = n) : ∀ ρ ds ρ', gCons g gs ρ = some (ds, ρ') → ds.length = n + 1 := fun ρ ds ρ' e => by
  obtain ⟨⟨x, ρ1⟩, e1, eg1⟩ := bind_some e
  obtain ⟨⟨y, ρ2⟩, e2, eg2⟩ := bind_some eg1
  cases eg2
  exact congrArg (· + 1) (h _ _ _ e2)
def setC (i : Nat) (c : Cell) (ρ : Env) : Option Env := match ρ[i]? with
  | some (some (.own true _)) => none
  | some _ => some (ρ.set i (some c))
  | none => none
def gCallIO (i : Nat) (f : D → List D → Option (D × D)) (gs : Md (List D)) : Md D := fun ρ => match ρ[i]? with
  | some (some (.own _ _)) => (gs ρ).bind fun p => match p.2[i]? with
    | some (some (.own b d)) => (f d p.1).bind fun r => some (r.1, p.2.set i (some (.own b r.2)))
    | _ => none
  | _ => none
theorem st_own_set {K : Kx} {F H F' H' : Hp} {σ : L2.St} {ρ : Env} {i : Nat} {b : Bool} {d d' : D} {a : Addr} (s : St K F H σ ρ) (e : ρ[i]? = some (some (.own b d))) (ea : σ[i]? = some (some (.ref a))) (sf : Same F F') (sh : Same F' H')
    (kp : ∀ c o, H c = some o → c ≠ a → H' c = some o ∧ F' c = F c) (o : OwnAt K F' H' a d') : St K F' H' σ (ρ.set i (some (.own b d'))) ∧ Stp F σ ρ H F' σ (ρ.set i (some (.own b d'))) H' := by
  have sub : ∀ c, Owns σ (ρ.set i (some (.own b d'))) c → Owns σ ρ c := fun c h => by
    obtain ⟨j, f, dj, h1, h2⟩ := h
    by_cases z : j = i
    · subst z
      exact ⟨j, b, d, e, h2⟩
    · rw [get_set_ne z] at h1
      exact ⟨j, f, dj, h1, h2⟩
  refine ⟨⟨sh, by rw [List.length_set]; exact s.len, fun j c hj => ?_, fun j l f g dj dl x h1 h2 h3 h4 => ?_⟩, ⟨sf, fun c u hc nc => kp c u hc fun z => nc (by subst z; exact ⟨i, b, d, e, ea⟩), fun c h => .inl (sub c h), fun j dj hj => ⟨rfl, ?_⟩, fun c u hc => ?_⟩⟩
  · by_cases z : j = i
    · subst z
      rw [get_set_self e] at hj
      cases hj
      exact ⟨a, ea, o⟩
    · rw [get_set_ne z] at hj
      have q := s.cell j c hj
      cases c with
      | val dj =>
        obtain ⟨v, e2, r2⟩ := q
        exact ⟨v, e2, dp_mono sf _ _ r2⟩
      | own f dj =>
        obtain ⟨c, e2, ow⟩ := q
        have ne : c ≠ a := fun y => z (by subst y; exact s.dist j i f b dj d _ hj e e2 ea)
        obtain ⟨u, e4⟩ := ow.there
        obtain ⟨g1, g2⟩ := kp c _ e4 ne
        exact ⟨c, e2, g2.trans ow.1, ow.2.mono sf fun o e5 => (kp c o e5 ne).1⟩
  · have h1' : ∃ f dj, ρ[j]? = some (some (.own f dj)) := by
      by_cases z : j = i
      · subst z; exact ⟨b, d, e⟩
      · rw [get_set_ne z] at h1; exact ⟨f, dj, h1⟩
    have h2' : ∃ f dj, ρ[l]? = some (some (.own f dj)) := by
      by_cases z : l = i
      · subst z; exact ⟨b, d, e⟩
      · rw [get_set_ne z] at h2; exact ⟨g, dl, h2⟩
    obtain ⟨f1, d1, g1⟩ := h1'
    obtain ⟨f2, d2, g2⟩ := h2'
    exact s.dist j l f1 f2 d1 d2 x g1 g2 h3 h4
  · by_cases z : j = i
    · subst z
      rw [e] at hj
      cases hj
      exact ⟨d', get_set_self e⟩
    · rw [get_set_ne z]
      exact ⟨dj, hj⟩
  · by_cases z : c = a
    · subst z
      exact o.there
    · exact ⟨u, (kp c u hc z).1⟩
theorem de_callIO (i : Nat) {k n : Nat} {y : Str} {f : Addr} {fd : FuncData} {ps : List Str} {py : Pos} {g : D → List D → Option (D × D)} {gs : Md (List D)} (G : FnOk X.prog X.w X.K X.mg X.base CX0 k f fd ps (spIO (cxK X) (n + 1) g)) (hr : Room k X.A) (hg : Gl X x) (hm : X.mg x = some (.ref f)) (hk : PySem.W.keepIn X.K (.ref f) = true) (hb : Binds X.K fd ps [])
    (hN : X.N[i]? = some y) (hv : Vis X.env.scope y) (ha : DA X es gs) (hlen : ∀ ρ ds ρ', gs ρ = some (ds, ρ') → ds.length = n)
    (hdb : (x == ("__debug__" : Str)) = false := by decide) (hdy : (y == ("__debug__" : Str)) = false := by decide) (hcd : (y == ("__classdict__" : Str)) = false := by decide) (he : starEach (.Name y py :: es) X.env = (false, eval (.Name y py) X.env) :: starEach es X.env := by rfl) (hpl : (backTo pos (starEach es X.env)).any (·.1) = false := by rfl) : DE X (.Call (.Name x p) (.Name y py :: es) [] pos) (gCallIO i g gs) :=
  pe_imp (pe_call G hr hg hm hk hb .nil pass0 (pa_cons (pe_var hN hv hdy hcd) ha he) hdb he hpl) fun σ H Q q => by
    obtain ⟨F, ρ, d, ρ', s, eg, k⟩ := q
    unfold gCallIO at eg
    split at eg
    · rename_i b0 d0 h0
      obtain ⟨a, ea, _, _⟩ := st_owned s h0
      obtain ⟨⟨ds, ρ1⟩, e1, eg1⟩ := bind_some eg
      simp only at eg1
      split at eg1
      · rename_i b1 d1 h1
        obtain ⟨⟨r, d'⟩, e2, eg2⟩ := bind_some eg1
        cases eg2
        refine ⟨.ref a, ea, F, ρ, ds, ρ1, s, e1, fun vs F1 H1 p1 s1 r1 => ⟨?_, F1, a, vs, d1, ds, r, d', by simp, s1.sub, ?_, r1, e2, fun v F2 H2 sf sh kp o rv => ?_⟩⟩
        · simp [da_len r1, hlen _ _ _ e1]
        · obtain ⟨a1, ea1, o1, _⟩ := st_owned s1 h1
          rw [ea] at ea1
          cases ea1
          exact o1
        · obtain ⟨s2, p2⟩ := st_own_set s1 h1 ea sf sh kp o
          exact k v F2 H2 (p1.trans p2) s2 rv
      · cases eg1
    · cases eg
theorem fl_base {K : Kx} {E : Ends} {H H1 F' : Hp} {σ' : L2.St} {H' : Hp} {f : Fl} (h : FlOk K E H F' σ' H' f) (p : ∀ a, H1 a = none → H a = none) : FlOk K E H1 F' σ' H' f := by
  cases f with
  | rof d => exact fun a o n => h a o (p a n)
  | nx => exact h
  | ret d => exact h
  | brk => exact h
  | cnt => exact h
def sNext : Sd := fun ρ => some (.nx, ρ)
def sSeq (s t : Sd) : Sd := fun ρ => (s ρ).bind fun p => match p.1 with
  | .nx => t p.2
  | f => some (f, p.2)
def sIf (g : Md Bool) (s t : Sd) : Sd := fun ρ => (g ρ).bind fun p => if p.1 = true then s p.2 else t p.2
def sRet (g : Md D) : Sd := fun ρ => (g ρ).bind fun p => some (.ret p.1, p.2)
def sDrop (g : Md D) : Sd := fun ρ => (g ρ).bind fun p => some (.nx, p.2)
def sSet (i : Nat) (g : Md D) : Sd := fun ρ => (g ρ).bind fun p => (setC i (.val p.1) p.2).bind fun r => some (.nx, r)
def sOwn (i : Nat) (g : Md D) : Sd := fun ρ => (g ρ).bind fun p => (setC i (.own false p.1) p.2).bind fun r => some (.nx, r)
def sBrk : Sd := fun ρ => some (.brk, ρ)
def sCnt : Sd := fun ρ => some (.cnt, ρ)
variable {st : Stmt} {sts : List Stmt}
theorem dss_nil : DSs X [] sNext := pss_imp pss_nil fun E σ H q => by
  obtain ⟨F, ρ, f, ρ', s, eg, k⟩ := q
  cases eg
  exact k σ F H Stp.refl s
theorem dss_cons {g h : Sd} (h1 : DS X st g) (h2 : DSs X sts h) : DSs X (st :: sts) (sSeq g h) := pss_imp (pss_cons h1 h2) fun E σ H q => by
  obtain ⟨F, ρ, f, ρ', s, eg, k⟩ := q
  obtain ⟨⟨f1, ρ1⟩, e1, eg1⟩ := bind_some eg
  refine ⟨F, ρ, f1, ρ1, s, e1, fun σ1 F1 H1 p1 s1 => ?_⟩
  cases f1 with
  | nx => exact ⟨F1, ρ1, f, ρ', s1, eg1, fun σ2 F2 H2 p2 s2 => fl_base (k σ2 F2 H2 (p1.trans p2) s2) fun _ => p1.none⟩
  | ret d =>
    cases eg1
    exact k σ1 F1 H1 p1 s1
  | rof d =>
    cases eg1
    exact k σ1 F1 H1 p1 s1
  | brk =>
    cases eg1
    exact k σ1 F1 H1 p1 s1
  | cnt =>
    cases eg1
    exact k σ1 F1 H1 p1 s1
theorem dss_one {g : Sd} (h1 : DS X st g) : DSs X [st] g := pss_one h1
theorem ds_if {g : Md Bool} {s1 s2 : Sd} {as bs : List Stmt} (hc : DT X c g) (ha : DSs X as s1) (hb : DSs X bs s2) : DS X (.If c as bs pos) (sIf g s1 s2) := ps_imp (ps_if hc ha hb) fun E σ H q => by
  obtain ⟨F, ρ, f, ρ', s, eg, k⟩ := q
  obtain ⟨⟨b, ρ1⟩, e1, eg1⟩ := bind_some eg
  refine ⟨F, ρ, b, ρ1, s, e1, fun F1 H1 p1 s1 => ?_⟩
  cases b with
  | true => exact ⟨F1, ρ1, f, ρ', s1, eg1, fun σ2 F2 H2 p2 s2 => fl_base (k σ2 F2 H2 (p1.trans p2) s2) fun _ => p1.none⟩
  | false => exact ⟨F1, ρ1, f, ρ', s1, eg1, fun σ2 F2 H2 p2 s2 => fl_base (k σ2 F2 H2 (p1.trans p2) s2) fun _ => p1.none⟩
theorem ds_ret {g : Md D} (h : DE X e g) : DS X (.Return (some e) pos) (sRet g) := ps_imp (ps_ret h) fun E σ H q => by
  obtain ⟨F, ρ, f, ρ', s, eg, k⟩ := q
  obtain ⟨⟨d, ρ1⟩, e1, eg1⟩ := bind_some eg
  cases eg1
  exact ⟨F, ρ, d, _, s, e1, fun v F1 H1 p1 s1 r1 => k σ F1 H1 p1 s1 v r1⟩
def sRof (g : Md D) : Sd := fun ρ => (g ρ).bind fun p => some (.rof p.1, p.2)
theorem ds_rof {g : Md D} (h : DF X e g) : DS X (.Return (some e) pos) (sRof g) := ps_imp (ps_ret h) fun E σ H q => by
  obtain ⟨F, ρ, f, ρ', s, eg, k⟩ := q
  obtain ⟨⟨d, ρ1⟩, e1, eg1⟩ := bind_some eg
  cases eg1
  exact ⟨F, ρ, d, _, s, e1, fun a F1 H1 p1 s1 o no hn => k σ F1 H1 p1 s1 a o hn⟩
theorem setC_some {i : Nat} {c : Cell} {ρ ρ' : Env} (h : setC i c ρ = some ρ') : ρ' = ρ.set i (some c) ∧ (∀ d, ρ[i]? ≠ some (some (.own true d))) ∧ ∃ o, ρ[i]? = some o := by
  unfold setC at h
  split at h
  · cases h
  · rename_i o q n
    refine ⟨(Option.some.inj h).symm, fun d z => ?_, _, n⟩
    rw [n] at z
    cases z
    exact q d rfl
  · cases h
theorem st_set {K : Kx} {F H : Hp} {σ : L2.St} {ρ ρ' : Env} {i : Nat} {c : Cell} {v : V} (s : St K F H σ ρ) (h : setC i c ρ = some ρ') (hc : CellOk K F H (some (some v)) c) (hn : ∀ f d a, c = .own f d → v = .ref a → f = false ∧ ¬ Owns σ ρ a) : St K F H (σ.set i (some v)) ρ' := by
  obtain ⟨rfl, nf, o, ho⟩ := setC_some h
  have hi : i < σ.length := by
    rw [← s.len]
    exact (List.getElem?_eq_some_iff.mp ho).1
  have hσ : (σ.set i (some v))[i]? = some (some v) := List.getElem?_set_self hi
  refine ⟨s.sub, by rw [List.length_set, List.length_set]; exact s.len, fun j cj hj => ?_, fun j l f g dj dl b h1 h2 h3 h4 => ?_⟩
  · by_cases z : j = i
    · subst z
      rw [get_set_self ho] at hj
      cases hj
      rw [hσ]
      exact hc
    · rw [get_set_ne z] at hj ⊢
      exact s.cell j cj hj
  · by_cases z1 : j = i
    · subst z1
      rw [get_set_self ho] at h1
      rw [hσ] at h3
      by_cases z2 : l = j
      · exact z2.symm
      · rw [get_set_ne z2] at h2 h4
        cases h1
        cases h3
        exact absurd ⟨l, g, dl, h2, h4⟩ (hn f dj b rfl rfl).2
    · rw [get_set_ne z1] at h1 h3
      by_cases z2 : l = i
      · subst z2
        rw [get_set_self ho] at h2
        rw [hσ] at h4
        cases h2
        cases h4
        exact absurd ⟨j, f, dj, h1, h3⟩ (hn g dl b rfl rfl).2
      · rw [get_set_ne z2] at h2 h4
        exact s.dist j l f g dj dl b h1 h2 h3 h4
theorem stp_set {F H : Hp} {σ : L2.St} {ρ ρ' : Env} {i : Nat} {c : Cell} {v : V} {H0 : Hp} {F0 : Hp} {σ0 : L2.St} {ρ0 : Env} (p : Stp F0 σ0 ρ0 H0 F σ ρ H) (h : setC i c ρ = some ρ') (hn : ∀ f d a, c = .own f d → v = .ref a → H0 a = none) : Stp F0 σ0 ρ0 H0 F (σ.set i (some v)) ρ' H := by
  obtain ⟨rfl, nf, o, ho⟩ := setC_some h
  refine ⟨p.ff, p.keep, fun b hb => ?_, fun j d hj => ?_, p.dom⟩
  · obtain ⟨j, f, dj, h1, h2⟩ := hb
    by_cases z : j = i
    · subst z
      rw [get_set_self ho] at h1
      cases h1
      have h3 : v = .ref b := by
        by_cases hl : j < σ.length
        · rw [List.getElem?_set_self hl] at h2
          exact Option.some.inj (Option.some.inj h2)
        · rw [List.getElem?_eq_none (by simpa using hl)] at h2
          cases h2
      exact .inr (hn f dj b rfl h3)
    · rw [get_set_ne z] at h1 h2
      exact p.fresh b ⟨j, f, dj, h1, h2⟩
  · obtain ⟨e1, d', e2⟩ := p.fix j d hj
    have z : j ≠ i := fun z => by
      subst z
      exact nf d' e2
    rw [get_set_ne z, get_set_ne z]
    exact ⟨e1, d', e2⟩
theorem ds_set {i : Nat} {pos' : Pos} {g : Md D} (hN : X.N.Nodup) (hi : X.N[i]? = some x) (hx : Loc X.env.scope x) (he : DE X e g) (hs : swapsWith e (some (.Name x pos')) pos.line X.env = pure false := by rfl) (hf : X.fn x = true ∨ X.env.scope.names.lookup x = some .local := by first | exact .inl rfl | exact .inr rfl | assumption) : DS X (.Assign [.Name x pos'] e pos) (sSet i g) :=
  ps_imp (ps_set hN hi hx he hs hf) fun E σ H q => by
    obtain ⟨F, ρ, f, ρ', s, eg, k⟩ := q
    obtain ⟨⟨d, ρ1⟩, e1, eg1⟩ := bind_some eg
    obtain ⟨r, e2, eg2⟩ := bind_some eg1
    cases eg2
    exact ⟨F, ρ, d, ρ1, s, e1, fun v F1 H1 p1 s1 r1 => k _ F1 H1 (stp_set p1 e2 fun _ _ _ z => nomatch z) (st_set s1 e2 ⟨v, rfl, r1⟩ fun _ _ _ z => nomatch z)⟩
theorem ds_own {i : Nat} {pos' : Pos} {g : Md D} (hN : X.N.Nodup) (hi : X.N[i]? = some x) (hx : Loc X.env.scope x) (he : DF X e g) (hs : swapsWith e (some (.Name x pos')) pos.line X.env = pure false := by rfl) (hf : X.fn x = true ∨ X.env.scope.names.lookup x = some .local := by first | exact .inl rfl | exact .inr rfl | assumption) : DS X (.Assign [.Name x pos'] e pos) (sOwn i g) :=
  ps_imp (ps_set hN hi hx he hs hf) fun E σ H q => by
    obtain ⟨F, ρ, f, ρ', s, eg, k⟩ := q
    obtain ⟨⟨d, ρ1⟩, e1, eg1⟩ := bind_some eg
    obtain ⟨r, e2, eg2⟩ := bind_some eg1
    cases eg2
    refine ⟨F, ρ, d, ρ1, s, e1, fun a F1 H1 p1 s1 o no hn => k _ F1 H1 (stp_set p1 e2 fun _ _ b _ z => ?_) (st_set s1 e2 ⟨a, rfl, o.1⟩ fun f _ b z1 z => ?_)⟩
    · cases z
      exact hn
    · cases z
      cases z1
      exact ⟨rfl, no⟩
def sApp (i : Nat) (g : Md D) : Sd := fun ρ => match ρ[i]? with
  | some (some (.own _ (.list _))) => (g ρ).bind fun p => match p.2[i]? with
    | some (some (.own b (.list ds))) => if ds.length < 16777216 then some (.nx, p.2.set i (some (.own b (.list (ds ++ [p.1]))))) else none
    | _ => none
  | _ => none
theorem own_lst {K : Kx} {F H : Hp} {a : Addr} {ds : List D} (h : OwnAt K F H a (.list ds)) : F a = none ∧ ∃ xs, H a = some (.lst xs) ∧ RpAll K F xs ds := by
  obtain ⟨f, h⟩ := h
  rcases h with ⟨xs, ds', e, hh, r⟩ | ⟨xs, es, e, _⟩ | ⟨xs, es, e, _⟩
  · cases e
    exact ⟨f, xs, hh, r⟩
  · cases e
  · cases e
theorem own_write {K : Kx} {F H : Hp} {a : Addr} {xs : List V} {ds : List D} {o : HO} (s : Same F H) (hF : F a = none) (hH : H a = some o) (r : RpAll K F xs ds) : OwnAt K F (upd H a (.lst xs)) a (.list ds) ∧ Same F (upd H a (.lst xs)) ∧ ∀ c u, H c = some u → c ≠ a → upd H a (.lst xs) c = some u ∧ F c = F c :=
  ⟨⟨hF, .inl ⟨xs, ds, rfl, upd_same, r⟩⟩, fun c u hc => by rw [upd_ne (ne_of_none hc hF)]; exact s c u hc, fun c u hc n => ⟨by rw [upd_ne n]; exact hc, rfl⟩⟩
theorem ds_app (i : Nat) {ce : Expr} {g : Md D} (he : PE X ce (tBM (cxK X) "list" rAppend (tVar i) (tCons (tD (cxK X) g) tNil))) (hs : swapsWith ce none pos.line X.env = pure false := by rfl) : DS X (.Expr ce pos) (sApp i g) :=
  ps_imp (ps_expr he hs) fun E σ H q => by
    obtain ⟨F, ρ, f, ρ', s, eg, k⟩ := q
    unfold sApp at eg
    split at eg
    · rename_i b0 d0 h0
      obtain ⟨a, ea, o0, _⟩ := st_owned s h0
      obtain ⟨_, xs0, hx0, _⟩ := own_lst o0
      obtain ⟨⟨d, ρ1⟩, e1, eg1⟩ := bind_some eg
      simp only at eg1
      split at eg1
      · rename_i b1 ds h1
        split at eg1
        · rename_i hl
          cases eg1
          refine ⟨.ref a, ea, .inl ⟨rfl, xs0, SqL.of hx0⟩, F, ρ, d, ρ1, s, e1, fun v F1 H1 p1 s1 r1 => ?_⟩
          obtain ⟨a1, ea1, o1, _⟩ := st_owned s1 h1
          rw [ea] at ea1
          cases ea1
          obtain ⟨f1, xs, hx, rx⟩ := own_lst o1
          refine ⟨a, xs, v, rfl, rfl, hx, by rw [line_eq, da_len rx]; exact hl, ?_⟩
          obtain ⟨o2, sh, kp⟩ := own_write s1.sub f1 hx (da_app rx (.cons r1 .nil))
          obtain ⟨s2, p2⟩ := st_own_set s1 h1 ea (Same.refl _) sh kp o2
          exact k σ F1 _ (p1.trans p2) s2
        · cases eg1
      · cases eg1
    · cases eg
def ixS (n : Nat) (i : Int) : Option Nat := if 0 ≤ i then (if i < n then some i.toNat else none) else if -(n : Int) ≤ i then some (i + n).toNat else none
def sSetIx (i : Nat) (gv gi : Md D) : Sd := fun ρ => (gv ρ).bind fun p => match p.2[i]? with
  | some (some (.own _ _)) => (gi p.2).bind fun q => (iOf q.1).bind fun z => match q.2[i]? with
    | some (some (.own b (.list ds))) => (ixS ds.length z).bind fun j => some (.nx, q.2.set i (some (.own b (.list (ds.set j p.1)))))
    | _ => none
  | _ => none
theorem ds_setIx (i : Nat) {y : Str} {py tpos : Pos} {gv gi : Md D} (hN : X.N[i]? = some y) (hv : Vis X.env.scope y) (he : DE X e gv) (hi : DE X a gi) (hdy : (y == ("__debug__" : Str)) = false := by decide) (hcd : (y == ("__classdict__" : Str)) = false := by decide)
    (ha : ∀ v, assign (.Subscript (.Name y py) a tpos) X.env v = (do let ov ← holding [v] (eval (.Name y py) X.env); let iv ← holding [v, ov] (eval a X.env); standAt tpos; holding [v, ov, iv] (setItem ov iv v); release [v, ov, iv] []) := by intro _; rfl)
    (hs : swapsWithSole [.Subscript (.Name y py) a tpos] e pos.line X.env = pure false := by rfl) (hw : swappedStores [.Subscript (.Name y py) a tpos] e X.env = pure none := by rfl) : DS X (.Assign [.Subscript (.Name y py) a tpos] e pos) (sSetIx i gv gi) :=
  ps_imp (ps_asg he (pg_sub (pe_var hN hv hdy hcd) hi set_list ha) hs hw) fun E σ H q => by
    obtain ⟨F, ρ, f, ρ', s, eg, k⟩ := q
    obtain ⟨⟨d, ρ1⟩, e1, eg1⟩ := bind_some eg
    simp only at eg1
    split at eg1
    · rename_i b0 d0 h0
      obtain ⟨⟨di, ρ2⟩, e2, eg2⟩ := bind_some eg1
      obtain ⟨z, e3, eg3⟩ := bind_some eg2
      simp only at eg3
      split at eg3
      · rename_i b1 ds h1
        obtain ⟨j, e4, eg4⟩ := bind_some eg3
        cases eg4
        have e5 := iOf_some e3
        simp only at e5
        subst e5
        refine ⟨F, ρ, d, ρ1, s, e1, fun v F1 H1 p1 s1 r1 => ?_⟩
        obtain ⟨a0, ea, o0, _⟩ := st_owned s1 h0
        refine ⟨.ref a0, ea, F1, ρ1, _, ρ2, s1, e2, fun u F2 H2 p2 s2 r2 => ?_⟩
        cases r2
        obtain ⟨a1, ea1, o1, _⟩ := st_owned s2 h1
        rw [ea] at ea1
        cases ea1
        obtain ⟨f1, xs, hx, rx⟩ := own_lst o1
        refine ⟨a0, xs, z, j, rfl, rfl, hx, by rw [da_len rx]; exact e4, ?_⟩
        obtain ⟨o2, sh, kp⟩ := own_write s2.sub f1 hx (da_set (dp_mono p2.ff _ _ r1) j rx)
        obtain ⟨s3, p3⟩ := st_own_set s2 h1 ea (Same.refl _) sh kp o2
        exact k σ F2 _ (p1.trans (p2.trans p3)) s3
      · cases eg3
    · cases eg1
end
end Dn
set_option maxHeartbeats 2000000
namespace Dn
open PySem PySem.Spec PyProof.Rows L2
section
variable {X : Cx} {e a b c tg iter : Expr} {es : List Expr} {pos p : Pos} {x : Str}
def gTN (i : Nat) : D → Env → Option Env := fun d ρ => setC i (.val d) ρ
def tDGs (K : Kx) (is : List Nat) (g : List D → Env → Option Env) : TGs := fun vs σ H Q => ∃ (F : Hp) (ρ : Env) (ds : List D) (ρ' : Env), St K F H σ ρ ∧ RpAll K F vs ds ∧ g ds ρ = some ρ' ∧
  ∀ σ' F' H', Stp F σ ρ H F' σ' ρ' H' → St K F' H' σ' ρ' → (σ'.length = σ.length ∧ ∀ j, j ∉ is → σ'[j]? = σ[j]?) → Q σ' H'
abbrev DGs (X : Cx) (es : List Expr) (is : List Nat) (g : List D → Env → Option Env) : Prop := PGs X es (tDGs (cxK X) is g)
theorem pgs_imp {X : Cx} {e : List Expr} {t t' : TGs} (h : PGs X e t) (i : ∀ v σ H Q, t' v σ H Q → t v σ H Q) : PGs X e t' := ⟨fun pins s σ H v u Q I r q => h.run pins s σ H v u Q I r (i v σ H Q q)⟩
theorem dg_name {i : Nat} (hN : X.N.Nodup) (hi : X.N[i]? = some x) (hx : Loc X.env.scope x) (hf : X.fn x = true ∨ X.env.scope.names.lookup x = some .local := by first | exact .inl rfl | exact .inr rfl | assumption) : DG X (.Name x pos) [i] (gTN i) :=
  pg_imp (pg_name hN hi hx hf) fun v σ H Q q => by
    obtain ⟨F, ρ, d, ρ', s, hd, eg, k⟩ := q
    exact k _ F H (stp_set Stp.refl eg fun _ _ _ z => nomatch z) (st_set s eg ⟨v, rfl, hd⟩ fun _ _ _ z => nomatch z) ⟨List.length_set, fun j hj => get_set_ne (by simpa using hj)⟩
def gTNil : List D → Env → Option Env
  | [], ρ => some ρ
  | _ :: _, _ => none
def gTCons (g : D → Env → Option Env) (gs : List D → Env → Option Env) : List D → Env → Option Env
  | d :: ds, ρ => (g d ρ).bind fun ρ1 => gs ds ρ1
  | [], _ => none
def gTTup (n : Nat) (gs : List D → Env → Option Env) : D → Env → Option Env
  | .tuple ds, ρ => if ds.length = n then gs ds ρ else none
  | _, _ => none
theorem dgs_nil : DGs X [] [] gTNil := pgs_imp pgs_nil fun vs σ H Q q => by
  obtain ⟨F, ρ, ds, ρ', s, hd, eg, k⟩ := q
  cases hd with
  | nil =>
    cases eg
    exact ⟨rfl, k σ F H Stp.refl s ⟨rfl, fun _ _ => rfl⟩⟩
  | cons _ _ => cases eg
theorem dgs_cons {is js : List Nat} {g : D → Env → Option Env} {gs : List D → Env → Option Env} (h1 : DG X e is g) (h2 : DGs X es js gs) (hs : (assignEach (e :: es) X.env).map (·.2) = assign e X.env :: (assignEach es X.env).map (·.2) := by rfl) : DGs X (e :: es) (is ++ js) (gTCons g gs) :=
  pgs_imp (pgs_cons h1 h2 hs) fun vs σ H Q q => by
    obtain ⟨F, ρ, ds, ρ', s, hd, eg, k⟩ := q
    cases hd with
    | nil => cases eg
    | cons r rs =>
      obtain ⟨ρ1, e1, eg1⟩ := bind_some eg
      exact ⟨_, _, rfl, F, ρ, _, ρ1, s, r, e1, fun σ1 F1 H1 p1 s1 w1 => ⟨F1, ρ1, _, ρ', s1, dpAll_mono p1.ff _ _ rs, eg1, fun σ2 F2 H2 p2 s2 w2 => k σ2 F2 H2 (p1.trans p2) s2 ⟨w2.1.trans w1.1, fun j hj => by
        rw [List.mem_append, not_or] at hj
        exact (w2.2 j hj.2).trans (w1.2 j hj.1)⟩⟩⟩
theorem dg_tup {k : Nat} {is : List Nat} {gs : List D → Env → Option Env} {n : Nat} (hc : X.calm = true) (h : DGs X es is gs) (hn : (assignEach es X.env).length = n := by rfl) (hst : (assignEach es X.env).findIdx? (·.1) = none := by rfl) : DG X (.Tuple es k pos) is (gTTup n gs) :=
  pg_imp (pg_tup hc h hn hst) fun v σ H Q q => by
    obtain ⟨F, ρ, d, ρ', s, hd, eg, k⟩ := q
    cases d with
    | tuple ds =>
      have eg' : (if ds.length = n then gs ds ρ else none) = some ρ' := eg
      split at eg'
      · rename_i hl
        cases hd with
        | @tup a vs _ h1 d1 => exact ⟨a, vs, rfl, seqT_same s.sub h1, by rw [da_len d1]; exact hl, F, ρ, ds, ρ', s, d1, eg', k⟩
      · cases eg'
    | none => cases eg
    | bool _ => cases eg
    | int _ => cases eg
    | str _ => cases eg
    | list _ => cases eg
    | dict _ => cases eg
def sAsg (g : Md D) (t : D → Env → Option Env) : Sd := fun ρ => (g ρ).bind fun p => (t p.1 p.2).bind fun r => some (.nx, r)
theorem ds_asg {is : List Nat} {g : Md D} {t : D → Env → Option Env} {st : Stmt} (h : PS X st (tAsg (tD (cxK X) g) (tDG (cxK X) is t))) : DS X st (sAsg g t) :=
  ps_imp h fun E σ H q => by
    obtain ⟨F, ρ, f, ρ', s, eg, k⟩ := q
    obtain ⟨⟨d, ρ1⟩, e1, eg1⟩ := bind_some eg
    obtain ⟨r, e2, eg2⟩ := bind_some eg1
    cases eg2
    exact ⟨F, ρ, d, ρ1, s, e1, fun v F1 H1 p1 s1 r1 => ⟨F1, ρ1, d, _, s1, r1, e2, fun σ2 F2 H2 p2 s2 _ => k σ2 F2 H2 (p1.trans p2) s2⟩⟩
def ItOk (K : Kx) (F : Hp) (J : It) (ds : List D) : Prop := ∀ F1 H, Same F F1 → Same F1 H → ∀ i, (∀ d, ds[i]? = some d → J.go i H ∧ ∀ x H', J.yld i H x H' → ∃ F', Grow F1 H F' H' ∧ Rp K F' x d) ∧ (ds.length ≤ i → J.stop i H)
def tDI (K : Kx) (g : Md (List D)) : TI := fun σ H R => ∃ (F : Hp) (ρ : Env) (ds : List D) (ρ' : Env), St K F H σ ρ ∧ g ρ = some (ds, ρ') ∧
  ∀ J F' H', Stp F σ ρ H F' σ ρ' H' → St K F' H' σ ρ' → ItOk K F' J ds → R J H'
abbrev DI (X : Cx) (tg e : Expr) (g : Md (List D)) : Prop := PI X tg e (tDI (cxK X) g)
theorem pi_imp {X : Cx} {tg e : Expr} {t t' : TI} (h : PI X tg e t) (i : ∀ σ H Q, t' σ H Q → t σ H Q) : PI X tg e t' := ⟨fun pins s σ H Q I q => h.run pins s σ H Q I (i σ H Q q)⟩
def signsL (x : Str) : List D := x.cps.toList.map fun c => .str ⟨#[c]⟩
def seqOf : D → Option (List D)
  | .list ds => some ds
  | .tuple ds => some ds
  | .str x => some (signsL x)
  | _ => none
def gSeq (g : Md D) : Md (List D) := fun ρ => (g ρ).bind fun p => (seqOf p.1).bind fun ds => some (ds, p.2)
def iSeq (K : Kx) (tl : TE) : TI := fun σ H R => tl σ H fun v H1 => (∃ x, v = .str x ∧ R (Its x) H1) ∨ ∃ a, v = .ref a ∧ (((∃ xs, SqL K H1 a xs) ∧ R (Itl K a) H1) ∨ ((∃ xs, SqT K H1 a xs) ∧ R (Itt K a) H1))
theorem pi_seq {l : Expr} {tl : TE} (hl : PE X l tl) : PI X tg l (iSeq (cxK X) tl) := by
  refine ⟨fun pins s σ H R I h => ?_⟩
  refine thn (hl.run pins s σ H _ I h) fun v s1 ⟨y, H1, I1, r1, q1⟩ => ?_
  rcases q1 with ⟨x, ex, q⟩ | ⟨a, e, q⟩
  · subst ex
    obtain ⟨t, rfl⟩ := r1
    cases ha : x.cps.all (· < 128)
    · exact wpAny_pyIter_wide ha (pi_one (tk := s1.toks) I1 _ (turn_str _ x t "str_iterator" (.inr rfl)) ⟨_, Heap.get?_push_size _ rfl, rfl, rfl⟩ q)
    · exact wpAny_pyIter_ascii ha (pi_one (tk := s1.toks) I1 _ (turn_str _ x t "str_ascii_iterator" (.inl rfl)) ⟨_, Heap.get?_push_size _ rfl, rfl, rfl⟩ q)
  subst e
  cases r1
  have fp : ∀ b ∈ [s1.heap.objs.size], FpOk X pins H1 b := fun b hb => by
    have e : b = s1.heap.objs.size := by simpa using hb
    subst e
    exact I1.fpOk (Nat.le_refl _) (I1.hok.fresh (Nat.le_refl _))
  rcases q with ⟨⟨xs, hq⟩, q⟩ | ⟨⟨xs, hq⟩, q⟩
  · obtain ⟨its, rv, p, hz⟩ := I1.list hq
    refine wpAny_pyIter_list p.isList ?_
    exact ⟨s1.heap.objs.size, [s1.heap.objs.size], _, _, H1, rfl, I1.kept (t' := s1.toks) fun b o e => Heap.get?_push_of_some _ e, turn_list a _, ⟨_, Heap.get?_push_size _ rfl, rfl, rfl⟩, fp, q⟩
  · obtain ⟨its, rv, p, hz⟩ := I1.tuple hq
    refine wpAny_pyIter_tuple (show s1.heap.IsTuple a its.toArray from p) ?_
    exact ⟨s1.heap.objs.size, [s1.heap.objs.size], _, _, H1, rfl, I1.kept (t' := s1.toks) fun b o e => Heap.get?_push_of_some _ e, turn_tuple a _, ⟨_, Heap.get?_push_size _ rfl, rfl, rfl⟩, fp, q⟩
theorem it_str {K : Kx} {F : Hp} {x : Str} : ItOk K F (Its x) (signsL x) := fun F1 H s1 s2 i => by
  have hl : (signsL x).length = x.cps.size := by simp [signsL]
  refine ⟨fun d e => ?_, fun h => by rw [hl] at h; exact h⟩
  have hi : i < x.cps.size := by
    have := (List.getElem?_eq_some_iff.mp e).1
    rw [hl] at this
    exact this
  refine ⟨hi, fun y H' hy => ?_⟩
  obtain ⟨rfl, c, hc, rfl⟩ := hy
  have e2 : d = .str ⟨#[c]⟩ := by
    unfold signsL at e
    rw [List.getElem?_map, Array.getElem?_toList, hc] at e
    exact (Option.some.inj e).symm
  subst e2
  exact ⟨F1, Grow.refl s2, .str _⟩
theorem it_list {K : Kx} {F : Hp} {a : Addr} {vs : List V} {ds : List D} (h : SqL K F a vs) (r : RpAll K F vs ds) : ItOk K F (Itl K a) ds := fun F1 H s1 s2 i => by
  have hH := (s1.trans s2).seq h
  refine ⟨fun d e => ?_, fun hl => ⟨vs, hH, by rw [da_len r]; exact hl⟩⟩
  obtain ⟨v, e1, rv⟩ := da_at r e
  refine ⟨⟨vs, v, hH, e1⟩, fun y H' hy => ?_⟩
  obtain ⟨rfl, hy⟩ := hy
  have e2 := (hy vs hH).symm.trans e1
  cases e2
  exact ⟨F1, Grow.refl s2, dp_mono s1 _ _ rv⟩
theorem it_tup {K : Kx} {F : Hp} {a : Addr} {vs : List V} {ds : List D} (h : SqT K F a vs) (r : RpAll K F vs ds) : ItOk K F (Itt K a) ds := fun F1 H s1 s2 i => by
  have hH := seqT_same (s1.trans s2) h
  refine ⟨fun d e => ?_, fun hl => ⟨vs, hH, by rw [da_len r]; exact hl⟩⟩
  obtain ⟨v, e1, rv⟩ := da_at r e
  refine ⟨⟨vs, v, hH, e1⟩, fun y H' hy => ?_⟩
  obtain ⟨rfl, hy⟩ := hy
  have e2 := (hy vs hH).symm.trans e1
  cases e2
  exact ⟨F1, Grow.refl s2, dp_mono s1 _ _ rv⟩
theorem di_seq {g : Md D} (h : DE X e g) : DI X tg e (gSeq g) := pi_imp (pi_seq h) fun σ H R q => by
  obtain ⟨F, ρ, ds, ρ', s, eg, k⟩ := q
  obtain ⟨⟨d, ρ1⟩, e1, eg1⟩ := bind_some eg
  obtain ⟨z, e2, eg2⟩ := bind_some eg1
  cases eg2
  refine ⟨F, ρ, d, _, s, e1, fun v F1 H1 p1 s1 r1 => ?_⟩
  cases d with
  | list xs =>
    cases e2
    cases r1 with
    | @lst a vs _ h1 d1 => exact .inr ⟨a, rfl, .inl ⟨⟨vs, s1.sub.seq h1⟩, k _ F1 H1 p1 s1 (it_list h1 d1)⟩⟩
  | tuple xs =>
    cases e2
    cases r1 with
    | @tup a vs _ h1 d1 => exact .inr ⟨a, rfl, .inr ⟨⟨vs, seqT_same s1.sub h1⟩, k _ F1 H1 p1 s1 (it_tup h1 d1)⟩⟩
  | none => cases e2
  | bool _ => cases e2
  | int _ => cases e2
  | str z =>
    cases e2
    cases r1
    exact .inl ⟨z, rfl, k _ F1 H1 p1 s1 it_str⟩
  | dict _ => cases e2
/-- range(a), range(a, b) -/
def rngL (lo : Int) (n : Nat) : List D := (List.range n).map fun i : Nat => .int (lo + i)
def small62 (j : Int) : Bool := decide (-(2 ^ 62) ≤ j ∧ j < 2 ^ 62)
def gRng1 (gs : Md (List D)) : Md (List D) := fun ρ => (gs ρ).bind fun p => match p.1 with
  | [.int j] => if small62 j = true then some (rngL 0 j.toNat, p.2) else none
  | _ => none
def gRng2 (gs : Md (List D)) : Md (List D) := fun ρ => (gs ρ).bind fun p => match p.1 with
  | [.int i, .int j] => if small62 i = true ∧ small62 j = true then some (rngL i (j - i).toNat, p.2) else none
  | _ => none
theorem it_rng {K : Kx} {F : Hp} {lo : Int} {n : Nat} : ItOk K F (Itr lo n) (rngL lo n) := fun F1 H s1 s2 i => by
  have hl : (rngL lo n).length = n := by simp [rngL]
  refine ⟨fun d e => ?_, fun h => by rw [hl] at h; exact h⟩
  have hi : i < n := by
    have := (List.getElem?_eq_some_iff.mp e).1
    rw [hl] at this
    exact this
  have ed : d = .int (lo + i) := by
    unfold rngL at e
    rw [List.getElem?_map, List.getElem?_range hi] at e
    exact (Option.some.inj e).symm
  subst ed
  refine ⟨hi, fun y H' hy => ?_⟩
  obtain ⟨rfl, rfl⟩ := hy
  exact ⟨F1, Grow.refl s2, .int _⟩
theorem di_rng1 {gs : Md (List D)} {p pos : Pos} (hg : Gl X "range") (hm : X.mg "range" = none) (ha : DA X [a] gs) (hs : starEach [a] X.env = [(false, eval a X.env)] := by rfl) : DI X tg (.Call (.Name "range" p) [a] [] pos) (gRng1 gs) :=
  pi_imp (pi_range1 hg hm ha hs) fun σ H R q => by
    obtain ⟨F, ρ, ds, ρ', s, eg, k⟩ := q
    obtain ⟨⟨d, ρ1⟩, e1, eg1⟩ := bind_some eg
    simp only at eg1
    split at eg1
    · rename_i j
      split at eg1
      · rename_i hj
        cases eg1
        have hj' := of_decide_eq_true hj
        refine ⟨F, ρ, _, _, s, e1, fun vs F1 H1 p1 s1 r1 => ?_⟩
        obtain ⟨v, rfl, rv⟩ := da1 r1
        cases rv
        exact ⟨j, rfl, hj'.1, hj'.2, k _ F1 H1 p1 s1 it_rng⟩
      · cases eg1
    · cases eg1
def forD (tg : D → Env → Option Env) (body : Sd) : List D → Sd
  | [] => fun ρ => some (.nx, ρ)
  | d :: ds => fun ρ => (tg d ρ).bind fun ρ1 => (body ρ1).bind fun p => match p.1 with
    | .nx => forD tg body ds p.2
    | .cnt => forD tg body ds p.2
    | .brk => some (.nx, p.2)
    | .ret r => some (.ret r, p.2)
    | .rof r => some (.rof r, p.2)
def sFor (gi : Md (List D)) (tg : D → Env → Option Env) (body : Sd) : Sd := fun ρ => (gi ρ).bind fun p => forD tg body p.1 p.2
theorem drop_cons {α : Type} {l : List α} {i : Nat} {d : α} (h : l[i]? = some d) : l.drop i = d :: l.drop (i + 1) := by
  obtain ⟨hl, e⟩ := List.getElem?_eq_some_iff.mp h
  rw [List.drop_eq_getElem_cons hl, e]
theorem ds_for {gi : Md (List D)} {gt : D → Env → Option Env} {gb : Sd} {body : List Stmt} (hp : PassesOwn (model X.prog X.w) X.A X.env X.xe) (hc : X.calm = true) (hi : DI X tg iter gi) {is : List Nat} (hg : DG X tg is gt) (hb : DSs X body gb) (hs : ∀ x, foldedSetIterable iter X.env x = pure x := by intro _; rfl) : DS X (.For tg iter body [] pos) (sFor gi gt gb) :=
  ps_imp (ps_for hp hc hi hg hb hs) fun E σ H q => by
    obtain ⟨F, ρ, f, ρ', s, eg, k⟩ := q
    obtain ⟨⟨ds, ρ1⟩, e1, eg1⟩ := bind_some eg
    refine ⟨F, ρ, ds, ρ1, s, e1, fun J F1 H1 p1 s1 ok => ?_⟩
    refine ⟨fun i m σi Hi => ∃ Fi ρi, m = ds.length - i ∧ i ≤ ds.length ∧ Stp F σ ρ H Fi σi ρi Hi ∧ St (cxK X) Fi Hi σi ρi ∧ Same F1 Fi ∧ forD gt gb (ds.drop i) ρi = some (f, ρ'), ⟨ds.length, F1, ρ1, by simp, Nat.zero_le _, p1, s1, Same.refl _, by simpa using eg1⟩, ?_⟩
    rintro i m σi Hi ⟨Fi, ρi, rfl, hi, pi, si, sf, ei⟩
    by_cases hlt : i < ds.length
    · have hd : ds[i]? = some ds[i] := List.getElem?_eq_getElem hlt
      obtain ⟨ok1, _⟩ := ok Fi Hi sf si.sub i
      obtain ⟨go, yl⟩ := ok1 _ hd
      rw [drop_cons hd] at ei
      obtain ⟨ρ2, e2, ei1⟩ := bind_some ei
      obtain ⟨⟨f3, ρ3⟩, e3, ei2⟩ := bind_some ei1
      refine .inr ⟨go, fun σ' H' => ∃ F' ρ'', Stp F σ ρ H F' σ' ρ'' H' ∧ St (cxK X) F' H' σ' ρ'' ∧ Same F1 F' ∧ forD gt gb (ds.drop (i + 1)) ρ'' = some (f, ρ'), fun σ' H' ⟨F', ρ'', h1, h2, h3, h4⟩ => ⟨ds.length - (i + 1), by omega, F', ρ'', rfl, hlt, h1, h2, h3, h4⟩, fun v H' hy => ?_⟩
      obtain ⟨F', gr, rv⟩ := yl v H' hy
      have p' := pi.trans (gr.stp σi ρi)
      refine ⟨F', ρi, _, ρ2, si.grow gr, rv, e2, fun σ2 F2 H2 p2 s2 _ => ⟨F2, ρ2, f3, ρ3, s2, e3, fun σ3 F3 H3 p3 s3 => ?_⟩⟩
      have pp := p'.trans (p2.trans p3)
      have sff := sf.trans (gr.ff.trans (p2.ff.trans p3.ff))
      cases f3 with
      | nx => exact ⟨F3, ρ3, pp, s3, sff, ei2⟩
      | cnt => exact ⟨F3, ρ3, pp, s3, sff, ei2⟩
      | brk =>
        cases ei2
        exact k σ3 F3 H3 pp s3
      | ret r =>
        cases ei2
        exact k σ3 F3 H3 pp s3
      | rof r =>
        cases ei2
        exact fl_base (k σ3 F3 H3 pp s3) fun _ n => p'.none (p2.none n)
    · have hl : i = ds.length := by omega
      obtain ⟨_, st⟩ := ok Fi Hi sf si.sub i
      rw [List.drop_of_length_le (by omega)] at ei
      cases ei
      exact .inl ⟨st (by omega), k σi Fi Hi pi si⟩
def wipeE (ρ : Env) : List Nat → Env
  | [] => ρ
  | v :: vs => (wipeE ρ vs).set v none
def notOwn (ρ : Env) (i : Nat) : Bool := match ρ[i]? with
  | some (some (.own _ _)) => false
  | _ => true
def backE (ρ0 : Env) : List Nat → Env → Env
  | [], ρ => ρ
  | v :: vs, ρ => match ρ0[v]? with
    | some o => (backE ρ0 vs ρ).set v o
    | none => backE ρ0 vs ρ
def lcD (vs : List Nat) (tg : D → Env → Option Env) (tt : Md Bool) (te : Md D) : List D → Env → Option (List D × Env)
  | [], ρ => some ([], ρ)
  | d :: ds, ρ => (tg d ρ).bind fun ρ1 => (tt ρ1).bind fun p => if p.1 = true then (te p.2).bind fun q => (lcD vs tg tt te ds (wipeE q.2 vs)).bind fun r => some (q.1 :: r.1, r.2) else lcD vs tg tt te ds (wipeE p.2 vs)
def gLc (vs : List Nat) (gi : Md (List D)) (tg : D → Env → Option Env) (tt : Md Bool) (te : Md D) : Md D := fun ρ => (gi ρ).bind fun p =>
  if p.1.length ≤ 16777216 ∧ vs.all (notOwn p.2) = true then (lcD vs tg tt te p.1 (wipeE p.2 vs)).bind fun r => some (.list r.1, backE p.2 vs r.2) else none
def gTrue : Md Bool := fun ρ => some (true, ρ)
theorem wipeE_out {ρ : Env} {i : Nat} : ∀ {vs : List Nat}, i ∉ vs → (wipeE ρ vs)[i]? = ρ[i]?
  | [], _ => rfl
  | v :: vs, h => by
    unfold wipeE
    rw [List.getElem?_set_ne (fun z => h (by rw [z]; exact List.mem_cons_self)), wipeE_out fun z => h (List.mem_cons_of_mem _ z)]
theorem wipeE_in {ρ : Env} {i : Nat} {c : Cell} : ∀ {vs : List Nat}, (wipeE ρ vs)[i]? = some (some c) → i ∉ vs
  | [], _ => by simp
  | v :: vs, h => by
    unfold wipeE at h
    by_cases z : v = i
    · subst z
      by_cases hl : v < (wipeE ρ vs).length
      · rw [List.getElem?_set_self hl] at h
        cases h
      · rw [List.getElem?_eq_none (by simpa using hl)] at h
        cases h
    · rw [List.getElem?_set_ne z] at h
      have := wipeE_in h
      simp only [List.mem_cons, not_or]
      exact ⟨fun y => z y.symm, this⟩
theorem wipeE_len (ρ : Env) : ∀ vs : List Nat, (wipeE ρ vs).length = ρ.length
  | [] => rfl
  | v :: vs => by
    unfold wipeE
    rw [List.length_set, wipeE_len ρ vs]
theorem wipeE_cell {ρ : Env} {vs : List Nat} {i : Nat} {c : Cell} (h : (wipeE ρ vs)[i]? = some (some c)) : ρ[i]? = some (some c) ∧ i ∉ vs := by
  have n := wipeE_in h
  rw [wipeE_out n] at h
  exact ⟨h, n⟩
theorem backE_len (ρ0 ρ : Env) : ∀ vs : List Nat, (backE ρ0 vs ρ).length = ρ.length
  | [] => rfl
  | v :: vs => by
    unfold backE
    split
    · rw [List.length_set, backE_len ρ0 ρ vs]
    · exact backE_len ρ0 ρ vs
theorem backE_out {ρ0 ρ : Env} {i : Nat} : ∀ {vs : List Nat}, i ∉ vs → (backE ρ0 vs ρ)[i]? = ρ[i]?
  | [], _ => rfl
  | v :: vs, h => by
    unfold backE
    have h1 : i ∉ vs := fun z => h (List.mem_cons_of_mem _ z)
    split
    · rw [List.getElem?_set_ne (fun z => h (by rw [z]; exact List.mem_cons_self)), backE_out h1]
    · exact backE_out h1
theorem backE_in {ρ0 ρ : Env} {i : Nat} (hl : ρ.length = ρ0.length) : ∀ {vs : List Nat}, i ∈ vs → (backE ρ0 vs ρ)[i]? = ρ0[i]?
  | [], h => by simp at h
  | v :: vs, h => by
    unfold backE
    by_cases z : v = i
    · subst z
      split
      · rename_i o e
        rw [List.getElem?_set_self (by rw [backE_len, hl]; exact (List.getElem?_eq_some_iff.mp e).1), e]
      · rename_i e
        have hl2 : ρ0.length ≤ v := List.getElem?_eq_none_iff.mp e
        rw [e]
        exact List.getElem?_eq_none (by rw [backE_len, hl]; exact hl2)
    · have h1 : i ∈ vs := (List.mem_cons.mp h).resolve_left fun y => z y.symm
      split
      · rw [List.getElem?_set_ne z, backE_in hl h1]
      · exact backE_in hl h1
theorem wipe_out' {σ : L2.St} {i : Nat} {vs : List Nat} (h : i ∉ vs) : (wipe σ vs)[i]? = σ[i]? := wipe_out h
theorem st_wipe {K : Kx} {F H : Hp} {σ : L2.St} {ρ : Env} (s : St K F H σ ρ) (vs : List Nat) : St K F H (wipe σ vs) (wipeE ρ vs) where
  sub := s.sub
  len := by rw [wipeE_len, wipe_length]; exact s.len
  cell := fun i c e => by
    obtain ⟨e1, n⟩ := wipeE_cell e
    rw [wipe_out' n]
    exact s.cell i c e1
  dist := fun i j f g d e a h1 h2 h3 h4 => by
    obtain ⟨e1, n1⟩ := wipeE_cell h1
    obtain ⟨e2, n2⟩ := wipeE_cell h2
    rw [wipe_out' n1] at h3
    rw [wipe_out' n2] at h4
    exact s.dist i j f g d e a e1 e2 h3 h4
theorem not_own {ρ : Env} {vs : List Nat} (h : vs.all (notOwn ρ) = true) {i : Nat} (hi : i ∈ vs) {f : Bool} {d : D} : ρ[i]? ≠ some (some (.own f d)) := fun e => by
  have z := List.all_eq_true.mp h i hi
  unfold notOwn at z
  rw [e] at z
  cases z
theorem stp_wipe {F0 F : Hp} {σ0 σ : L2.St} {ρ0 ρ : Env} {H0 H : Hp} (p : Stp F0 σ0 ρ0 H0 F σ ρ H) {vs : List Nat} (hn : ∀ i d, ρ0[i]? = some (some (.own true d)) → i ∉ vs) : Stp F0 σ0 ρ0 H0 F (wipe σ vs) (wipeE ρ vs) H where
  ff := p.ff
  keep := p.keep
  fresh := fun b hb => by
    obtain ⟨i, f, d, e1, e2⟩ := hb
    obtain ⟨e3, n⟩ := wipeE_cell e1
    rw [wipe_out' n] at e2
    exact p.fresh b ⟨i, f, d, e3, e2⟩
  fix := fun i d h => by
    obtain ⟨e1, d', e2⟩ := p.fix i d h
    have n := hn i d h
    rw [wipe_out' n, wipeE_out n]
    exact ⟨e1, d', e2⟩
  dom := p.dom
theorem st_side {K : Kx} {F H : Hp} {σ : L2.St} {ρ : Env} {b : Addr} {o : HO} (s : St K F H σ ρ) (hF : F b = none) (n : ¬ Owns σ ρ b) : St K F (upd H b o) σ ρ where
  sub := fun c u h => by rw [upd_ne (fun z => by subst z; rw [hF] at h; cases h)]; exact s.sub c u h
  len := s.len
  cell := fun i c e => by
    have q := s.cell i c e
    cases c with
    | val d => exact q
    | own f d =>
      obtain ⟨a, e1, f0, ow⟩ := q
      refine ⟨a, e1, f0, ow.mono (Same.refl _) fun o e3 => ?_⟩
      rw [upd_ne (fun z => n (by subst z; exact ⟨i, f, d, e, e1⟩))]
      exact e3
  dist := s.dist
theorem stp_side {F0 F : Hp} {σ0 σ : L2.St} {ρ0 ρ : Env} {H0 H : Hp} (p : Stp F0 σ0 ρ0 H0 F σ ρ H) {b : Addr} {o : HO} (hb : H0 b = none) : Stp F0 σ0 ρ0 H0 F σ ρ (upd H b o) :=
  ⟨p.ff, fun c u h n => by rw [upd_ne (ne_of_none h hb)]; exact p.keep c u h n, p.fresh, p.fix, fun c u h => by rw [upd_ne (ne_of_none h hb)]; exact p.dom c u h⟩
theorem stp_back {F0 F : Hp} {σ : L2.St} {ρ0 ρ : Env} {H0 H : Hp} {vs : List Nat} (p : Stp F0 σ ρ0 H0 F (wipe σ vs) ρ H) (hl : ρ.length = ρ0.length) (hn : vs.all (notOwn ρ0) = true) : Stp F0 σ ρ0 H0 F σ (backE ρ0 vs ρ) H ∧ ∀ b, Owns σ (backE ρ0 vs ρ) b → Owns (wipe σ vs) ρ b := by
  have sub : ∀ b, Owns σ (backE ρ0 vs ρ) b → Owns (wipe σ vs) ρ b := fun b hb => by
    obtain ⟨i, f, d, e1, e2⟩ := hb
    by_cases hi : i ∈ vs
    · rw [backE_in hl hi] at e1
      exact absurd e1 (not_own hn hi)
    · rw [backE_out hi] at e1
      exact ⟨i, f, d, e1, by rw [wipe_out' hi]; exact e2⟩
  refine ⟨⟨p.ff, p.keep, fun b hb => p.fresh b (sub b hb), fun i d h => ?_, p.dom⟩, sub⟩
  have hi : i ∉ vs := fun z => not_own hn z h
  obtain ⟨e1, d', e2⟩ := p.fix i d h
  exact ⟨rfl, d', by rw [backE_out hi]; exact e2⟩
theorem st_back {K : Kx} {F0 F H0 H : Hp} {σ : L2.St} {ρ0 ρ : Env} {vs : List Nat} (s0 : St K F0 H0 σ ρ0) (s : St K F H (wipe σ vs) ρ) (sf : Same F0 F) (hn : vs.all (notOwn ρ0) = true) : St K F H σ (backE ρ0 vs ρ) := by
  have hl : ρ.length = ρ0.length := by rw [s.len, wipe_length, s0.len]
  have own : ∀ (i : Nat) (f : Bool) (d : D), (backE ρ0 vs ρ)[i]? = some (some (.own f d)) → i ∉ vs ∧ ρ[i]? = some (some (.own f d)) := fun i f d e => by
    by_cases hi : i ∈ vs
    · rw [backE_in hl hi] at e
      exact absurd e (not_own hn hi)
    · rw [backE_out hi] at e
      exact ⟨hi, e⟩
  refine ⟨s.sub, by rw [backE_len, hl]; exact s0.len, fun i c e => ?_, fun i j f g d e a h1 h2 h3 h4 => ?_⟩
  · by_cases hi : i ∈ vs
    · rw [backE_in hl hi] at e
      cases c with
      | val d =>
        obtain ⟨v, e1, r⟩ := s0.cell i _ e
        exact ⟨v, e1, dp_mono sf _ _ r⟩
      | own f d => exact absurd e (not_own hn hi)
    · rw [backE_out hi] at e
      have q := s.cell i c e
      rw [wipe_out' hi] at q
      exact q
  · obtain ⟨n1, e1⟩ := own i f d h1
    obtain ⟨n2, e2⟩ := own j g e h2
    exact s.dist i j f g d e a e1 e2 (by rw [wipe_out' n1]; exact h3) (by rw [wipe_out' n2]; exact h4)
theorem wipe_in' {σ : L2.St} {i : Nat} (hi : i < σ.length) : ∀ {vs : List Nat}, i ∈ vs → (wipe σ vs)[i]? = some none
  | [], h => by simp at h
  | v :: vs, h => by
    unfold wipe
    by_cases z : v = i
    · subst z
      exact List.getElem?_set_self (by rw [wipe_length]; exact hi)
    · rw [List.getElem?_set_ne z]
      exact wipe_in' hi ((List.mem_cons.mp h).resolve_left fun y => z y.symm)
theorem wipe_eq {σ σ2 : L2.St} {vs is : List Nat} (hs : ∀ j, j ∉ is → σ2[j]? = (wipe σ vs)[j]?) (hv : ∀ j ∈ is, j ∈ vs) (hl : σ2.length = σ.length) : wipe σ2 vs = wipe σ vs := by
  refine List.ext_getElem? fun j => ?_
  by_cases hj : j ∈ vs
  · by_cases h : j < σ.length
    · rw [wipe_in' h hj, wipe_in' (by rw [hl]; exact h) hj]
    · rw [List.getElem?_eq_none (by rw [wipe_length, hl]; omega), List.getElem?_eq_none (by rw [wipe_length]; omega)]
  · rw [wipe_out' hj]
    exact hs j fun z => hj (hv j z)
theorem lc_q {vs is : List Nat} (hv : ∀ j ∈ is, j ∈ vs) {gi : Md (List D)} {gt : D → Env → Option Env} {gc : Md Bool} {ge : Md D} {σ : L2.St} {H : Hp} {Q : VK} (q : tF (cxK X) (gLc vs gi gt gc ge) σ H Q) : tLc (tDI (cxK X) gi) (tDG (cxK X) is gt) (tDT (cxK X) gc) (tD (cxK X) ge) vs σ H Q := by
    obtain ⟨F, ρ, d, ρ', s, eg, k⟩ := q
    obtain ⟨⟨ds, ρ1⟩, e1, eg1⟩ := bind_some eg
    simp only at eg1
    split at eg1
    · rename_i hl
      obtain ⟨⟨rs, ρe⟩, e2, eg2⟩ := bind_some eg1
      cases eg2
      refine ⟨F, ρ, ds, ρ1, s, e1, fun J F1 H1 p1 s1 ok D hD => ?_⟩
      have hw := st_wipe s1 vs
      have hnv : ∀ i dd, ρ1[i]? = some (some (.own true dd)) → i ∉ vs := fun i dd e hi => not_own hl.2 hi e
      have p1w : Stp F1 σ ρ1 H1 F1 (wipe σ vs) (wipeE ρ1 vs) H1 := stp_wipe Stp.refl hnv
      have nD0 : ¬ Owns (wipe σ vs) (wipeE ρ1 vs) D := not_owns hw hD
      refine ⟨fun i m Hi => ∃ Fi ρi acc as rr, m = ds.length - i ∧ i ≤ ds.length ∧ Stp F1 σ ρ1 H1 Fi (wipe σ vs) ρi Hi ∧ St (cxK X) Fi Hi (wipe σ vs) ρi ∧ lcD vs gt gc ge (ds.drop i) ρi = some (rr, ρe) ∧ as ++ rr = rs ∧ (Fi D = none ∧ ¬ Owns (wipe σ vs) ρi D) ∧ Hi D = some (.lst acc) ∧ RpAll (cxK X) Fi acc as ∧ as.length ≤ i,
        ⟨ds.length, F1, wipeE ρ1 vs, [], [], rs, by simp, Nat.zero_le _, p1w.trans ((Grow.own s1.sub hD).stp _ _), hw.grow (Grow.own s1.sub hD), by simpa using e2, by simp, ⟨none_sub s1.sub hD, nD0⟩, upd_same, .nil, by simp⟩, ?_⟩
      rintro i m Hi ⟨Fi, ρi, acc, as, rr, rfl, hi, pi, si, ei, er, ⟨fD, nD⟩, hDi, ra, la⟩
      have sff : Same F1 Fi := pi.ff
      by_cases hlt : i < ds.length
      · have hd : ds[i]? = some ds[i] := List.getElem?_eq_getElem hlt
        obtain ⟨ok1, _⟩ := ok Fi Hi sff si.sub i
        obtain ⟨go, yl⟩ := ok1 _ hd
        rw [drop_cons hd] at ei
        obtain ⟨ρ2, e3, ei1⟩ := bind_some ei
        obtain ⟨⟨b, ρ3⟩, e4, ei2⟩ := bind_some ei1
        refine .inr ⟨go, fun H' => ∃ F' ρ'' acc' as' rr', Stp F1 σ ρ1 H1 F' (wipe σ vs) ρ'' H' ∧ St (cxK X) F' H' (wipe σ vs) ρ'' ∧ lcD vs gt gc ge (ds.drop (i + 1)) ρ'' = some (rr', ρe) ∧ as' ++ rr' = rs ∧ (F' D = none ∧ ¬ Owns (wipe σ vs) ρ'' D) ∧ H' D = some (.lst acc') ∧ RpAll (cxK X) F' acc' as' ∧ as'.length ≤ i + 1,
          fun H' ⟨F', ρ'', acc', as', rr', z1, z2, z3, z4, z5, z6, z7, z8⟩ => ⟨ds.length - (i + 1), by omega, F', ρ'', acc', as', rr', rfl, hlt, z1, z2, z3, z4, z5, z6, z7, z8⟩, fun v H' hy => ?_⟩
        obtain ⟨F', gr, rv⟩ := yl v H' hy
        have q0 := gr.stp (wipe σ vs) ρi
        refine ⟨F', ρi, _, ρ2, si.grow gr, rv, e3, fun σ2 F2 H2 p2 s2 w2 => ?_⟩
        have ew : wipe σ2 vs = wipe σ vs := wipe_eq w2.2 hv (w2.1.trans (wipe_length σ vs))
        refine ⟨ew, F2, ρ2, b, ρ3, s2, e4, fun F3 H3 p3 s3 => ?_⟩
        have q3 := q0.trans (p2.trans p3)
        have fin : ∀ (F4 : Hp) (ρ4 : Env) (H4 : Hp), Stp Fi (wipe σ vs) ρi Hi F4 σ2 ρ4 H4 → St (cxK X) F4 H4 σ2 ρ4 → H4 D = some (.lst acc) ∧ F4 D = none ∧ ¬ Owns (wipe σ vs) (wipeE ρ4 vs) D ∧ Stp F1 σ ρ1 H1 F4 (wipe σ vs) (wipeE ρ4 vs) H4 ∧ St (cxK X) F4 H4 (wipe σ vs) (wipeE ρ4 vs) := fun F4 ρ4 H4 q s4 => by
          obtain ⟨h1, h2⟩ := q.keep D _ hDi nD
          have h3 := stp_wipe (pi.trans q) hnv
          have h4 := st_wipe s4 vs
          rw [ew] at h3 h4
          refine ⟨h1, h2.trans fD, fun z => ?_, h3, h4⟩
          obtain ⟨j, f, dd, z1, z2⟩ := z
          obtain ⟨z3, z4⟩ := wipeE_cell z1
          rw [← ew, wipe_out' z4] at z2
          rcases q.fresh D ⟨j, f, dd, z3, z2⟩ with y | y
          · exact nD y
          · rw [hDi] at y
            cases y
        cases b with
        | true =>
          rw [if_pos rfl] at ei2
          obtain ⟨⟨y, ρ4⟩, e5, ei3⟩ := bind_some ei2
          obtain ⟨⟨r, ρ5⟩, e6, ei4⟩ := bind_some ei3
          cases ei4
          refine ⟨F3, ρ3, y, ρ4, s3, e5, fun u F4 H4 p4 s4 r4 => ?_⟩
          have q4 := q3.trans p4
          obtain ⟨h1, h2, h3, h4, h5⟩ := fin F4 ρ4 H4 q4 s4
          refine ⟨acc, h1, by rw [line_eq, da_len ra]; omega, F4, wipeE ρ4 vs, acc ++ [u], as ++ [y], r, stp_side h4 hD, st_side h5 h2 h3, e6, by rw [List.append_assoc]; exact er, ⟨h2, h3⟩, upd_same, da_app (dpAll_mono q4.ff _ _ ra) (.cons r4 .nil), by rw [List.length_append]; simpa using la⟩
        | false =>
          rw [if_neg Bool.false_ne_true] at ei2
          obtain ⟨h1, h2, h3, h4, h5⟩ := fin F3 ρ3 H3 q3 s3
          exact ⟨F3, wipeE ρ3 vs, acc, as, rr, h4, h5, ei2, er, ⟨h2, h3⟩, h1, dpAll_mono q3.ff _ _ ra, by omega⟩
      · rw [List.drop_of_length_le (by omega)] at ei
        cases ei
        obtain ⟨_, st⟩ := ok Fi Hi sff si.sub i
        refine .inl ⟨st (by omega), ?_⟩
        rw [List.append_nil] at er
        subst er
        obtain ⟨pb, sb⟩ := stp_back pi (by rw [si.len, wipe_length, s1.len]) hl.2
        exact k D Fi Hi (p1.trans pb) (st_back s1 si sff hl.2) ⟨⟨fD, .inl ⟨acc, as, rfl, hDi, ra⟩⟩, rfl⟩ (fun z => nD (sb D z)) (p1.none hD)
    · cases eg1
end
end Dn
set_option maxHeartbeats 2000000
namespace Dn
open PySem PySem.Spec PyProof.Rows L2
def vals (ds : List D) : Env := ds.map fun d => some (.val d)
def envV (N : Nat) (ds : List D) : Env := vals ds ++ List.replicate (N - ds.length) none
def endV : Fl × Env → Option D
  | (.ret d, _) => some d
  | (.nx, _) => some .none
  | _ => none
def runV (N : Nat) (g : Sd) (ds : List D) : Option D := (g (envV N ds)).bind endV
def envIO (N : Nat) (d : D) (ds : List D) : Env := some (.own true d) :: (vals ds ++ List.replicate (N - (ds.length + 1)) none)
def ownOf : Option (Option Cell) → Option D
  | some (some (.own true d)) => some d
  | _ => none
def endIO (p : Fl × Env) : Option (D × D) := (ownOf p.2[0]?).bind fun d => (endV p).bind fun r => some (r, d)
def runIO (N : Nat) (g : Sd) (d : D) (ds : List D) : Option (D × D) := (g (envIO N d ds)).bind endIO
theorem vals_get {ds : List D} {n i : Nat} {c : Cell} (h : (vals ds ++ List.replicate n none)[i]? = some (some c)) : ∃ d, ds[i]? = some d ∧ c = .val d := by
  by_cases hi : i < ds.length
  · rw [List.getElem?_append_left (by simpa [vals] using hi)] at h
    unfold vals at h
    rw [List.getElem?_map] at h
    cases q : ds[i]? with
    | none => rw [q] at h; cases h
    | some d =>
      rw [q] at h
      cases h
      exact ⟨d, rfl, rfl⟩
  · rw [List.getElem?_append_right (by simpa [vals] using Nat.le_of_not_lt hi)] at h
    have h2 := List.mem_of_getElem? h
    have := List.eq_of_mem_replicate h2
    cases this
theorem start_get {vs : List V} {n i : Nat} {v : V} (h : vs[i]? = some v) : (vs.map some ++ List.replicate n none)[i]? = some (some v) := by
  have hi := (List.getElem?_eq_some_iff.mp h).1
  rw [List.getElem?_append_left (by simpa using hi), List.getElem?_map, h]
  rfl
theorem st_vals {K : Kx} {F H : Hp} {N : List Str} {vs : List V} {ds : List D} (s : Same F H) (hd : RpAll K F vs ds) : St K F H (L2.start N vs) (envV N.length ds) where
  sub := s
  len := by simp [envV, L2.start, vals, da_len hd]
  cell := fun i c h => by
    obtain ⟨d, e, rfl⟩ := vals_get h
    obtain ⟨v, e1, r⟩ := da_at hd e
    exact ⟨v, start_get e1, r⟩
  dist := fun i j f g d e a h1 _ _ _ => by
    obtain ⟨d', _, z⟩ := vals_get h1
    cases z
theorem no_owns {σ : L2.St} {N : Nat} {ds : List D} {b : Addr} : ¬ Owns σ (envV N ds) b := fun z => by
  obtain ⟨i, f, d, h, _⟩ := z
  obtain ⟨d', _, z⟩ := vals_get h
  cases z
theorem stp_grow {K : Kx} {F F' H H' : Hp} {σ σ' : L2.St} {N : Nat} {ds : List D} {ρ' : Env} (p : Stp F σ (envV N ds) H F' σ' ρ' H') (s : St K F' H' σ' ρ') : Grow F H F' H' :=
  ⟨p.ff, fun b o h => (p.keep b o h no_owns).1, s.sub, fun b o h => (p.keep b o h no_owns).2⟩
section
variable {P : Program} {w : World} {K : PySem.W.Frag} {mg : Str → Option Value} {base : Heap}
theorem fn_V {x qual : Str} {st : Stmt} {f : Addr} {fd : FuncData} {N ps : List Str} {k : Nat} {g : Sd} (Fn : Fun K x qual st f fd) (S : FnScope N ps (defScope st))
    (hbody : ∀ (cdv : Value) (A : Around) (outer : List PySem.Env) (s : Shared) (H : Hp) (E : XK), Room k (A.deeper (envOfC qual (defScope st) s.heap.objs.size f cdv)) → DSs (cxOf CX0 P w K mg base N qual (defScope st) f cdv A outer s H E).nox (defBody st) g) :
    FnOk P w K mg base CX0 (k + 1) f fd ps (spV ⟨K, P, w⟩ ps.length (runV N.length g)) := by
  refine Fn.ok S (fun vs H Q E h => h.1) fun cdv A outer s H vs Q E hr h => ⟨_, hbody cdv A outer s H E hr, ?_⟩
  obtain ⟨_, F, ds, r, sf, hd, ef, k⟩ := h
  obtain ⟨⟨fl, ρ'⟩, e1, e2⟩ := bind_some ef
  refine ⟨F, envV N.length ds, fl, ρ', st_vals sf hd, e1, fun σ' F' H' p s' => ?_⟩
  have gr := stp_grow p s'
  cases fl with
  | nx =>
    cases e2
    exact k .non F' H' gr .non
  | ret d =>
    cases e2
    exact fun v rv => k v F' H' gr rv
  | rof d => cases e2
  | brk => cases e2
  | cnt => cases e2
def endF : Fl × Env → Option D
  | (.rof d, _) => some d
  | _ => none
def runF (N : Nat) (g : Sd) (ds : List D) : Option D := (g (envV N ds)).bind endF
theorem fn_F {x qual : Str} {st : Stmt} {f : Addr} {fd : FuncData} {N ps : List Str} {k : Nat} {g : Sd} (Fn : Fun K x qual st f fd) (S : FnScope N ps (defScope st))
    (hbody : ∀ (cdv : Value) (A : Around) (outer : List PySem.Env) (s : Shared) (H : Hp) (E : XK), Room k (A.deeper (envOfC qual (defScope st) s.heap.objs.size f cdv)) → DSs (cxOf CX0 P w K mg base N qual (defScope st) f cdv A outer s H E).nox (defBody st) g) :
    FnOk P w K mg base CX0 (k + 1) f fd ps (spF ⟨K, P, w⟩ ps.length (runF N.length g)) := by
  refine Fn.ok S (fun vs H Q E h => h.1) fun cdv A outer s H vs Q E hr h => ⟨_, hbody cdv A outer s H E hr, ?_⟩
  obtain ⟨_, F, ds, r, sf, hd, ef, k⟩ := h
  obtain ⟨⟨fl, ρ'⟩, e1, e2⟩ := bind_some ef
  refine ⟨F, envV N.length ds, fl, ρ', st_vals sf hd, e1, fun σ' F' H' p s' => ?_⟩
  have gr := stp_grow p s'
  cases fl with
  | rof d =>
    cases e2
    exact fun a o n => k a F' H' gr o n
  | nx => cases e2
  | ret d => cases e2
  | brk => cases e2
  | cnt => cases e2
theorem io_get {d : D} {ds : List D} {n i : Nat} {c : Cell} (h : ((some (Cell.own true d) :: (vals ds ++ List.replicate n none)) : Env)[i]? = some (some c)) : (i = 0 ∧ c = .own true d) ∨ ∃ j e, i = j + 1 ∧ ds[j]? = some e ∧ c = .val e := by
  cases i with
  | zero =>
    cases h
    exact .inl ⟨rfl, rfl⟩
  | succ j =>
    rw [List.getElem?_cons_succ] at h
    obtain ⟨e, h1, h2⟩ := vals_get h
    exact .inr ⟨j, e, rfl, h1, h2⟩
theorem fn_IO {x qual : Str} {st : Stmt} {f : Addr} {fd : FuncData} {N ps : List Str} {k : Nat} {g : Sd} (Fn : Fun K x qual st f fd) (S : FnScope N ps (defScope st)) (hN : 0 < N.length)
    (hbody : ∀ (cdv : Value) (A : Around) (outer : List PySem.Env) (s : Shared) (H : Hp) (E : XK), Room k (A.deeper (envOfC qual (defScope st) s.heap.objs.size f cdv)) → DSs (cxOf CX0 P w K mg base N qual (defScope st) f cdv A outer s H E).nox (defBody st) g) :
    FnOk P w K mg base CX0 (k + 1) f fd ps (spIO ⟨K, P, w⟩ ps.length (runIO N.length g)) := by
  refine Fn.ok S (fun vs H Q E h => h.1) fun cdv A outer s H vs Q E hr h => ⟨_, hbody cdv A outer s H E hr, ?_⟩
  obtain ⟨_, F, a, ws, d, ds, r, d', rfl, sf, o, hd, ef, k⟩ := h
  obtain ⟨⟨fl, ρ'⟩, e1, e2⟩ := bind_some ef
  have hs0 : (L2.start N (.ref a :: ws))[0]? = some (some (.ref a)) := rfl
  have hst : St (Kx.mk K P w) F H (L2.start N (.ref a :: ws)) (envIO N.length d ds) := by
    refine ⟨sf, by simp [envIO, L2.start, vals, da_len hd], fun i c h => ?_, fun i j f g d e b h1 h2 _ _ => ?_⟩
    · rcases io_get h with ⟨rfl, rfl⟩ | ⟨j, e, rfl, h1, rfl⟩
      · exact ⟨a, hs0, o⟩
      · obtain ⟨v, e3, rv⟩ := da_at hd h1
        exact ⟨v, start_get (vs := .ref a :: ws) (i := j + 1) e3, rv⟩
    · rcases io_get h1 with ⟨rfl, _⟩ | ⟨_, _, _, _, z⟩
      · rcases io_get h2 with ⟨rfl, _⟩ | ⟨_, _, _, _, z⟩
        · rfl
        · cases z
      · cases z
  refine ⟨F, envIO N.length d ds, fl, ρ', hst, e1, fun σ' F' H' p s' => ?_⟩
  have own1 : ∀ b, Owns (L2.start N (.ref a :: ws)) (envIO N.length d ds) b → b = a := fun b z => by
    obtain ⟨i, f, e, h1, h2⟩ := z
    rcases io_get h1 with ⟨rfl, _⟩ | ⟨_, _, _, _, z⟩
    · rw [hs0] at h2
      cases h2
      rfl
    · cases z
  obtain ⟨f1, d1, f2⟩ := p.fix 0 d rfl
  have f3 : ρ'[0]? = some (some (.own true d1)) := f2
  have o' : OwnAt (Kx.mk K P w) F' H' a d1 := by
    obtain ⟨b, z1, z2⟩ := s'.cell 0 _ f3
    rw [f1, hs0] at z1
    cases z1
    exact z2
  have kp : ∀ b u, H b = some u → b ≠ a → H' b = some u ∧ F' b = F b := fun b u h n => p.keep b u h fun z => n (own1 b z)
  have e3 : (endV (fl, ρ')).bind (fun r => some (r, d1)) = some (r, d') := by
    have e4 : endIO (fl, ρ') = some (r, d') := e2
    unfold endIO at e4
    rw [show (fl, ρ').2[0]? = some (some (.own true d1)) from f3] at e4
    exact e4
  cases fl with
  | nx =>
    cases e3
    exact k .non F' H' p.ff s'.sub kp o' .non
  | ret d =>
    cases e3
    exact fun v rv => k v F' H' p.ff s'.sub kp o' rv
  | rof d => cases e3
  | brk => cases e3
  | cnt => cases e3
end
def peek (ρ : Env) (i : Nat) : Option D := match ρ[i]? with
  | some (some (.val d)) => some d
  | some (some (.own _ d)) => if notT d = true then some d else none
  | _ => none
def flatD : D → Bool
  | .none => true
  | .bool _ => true
  | .int _ => true
  | .str _ => true
  | _ => false
def gPk (i : Nat) (f : List D → Option D) : Md D := fun ρ => (peek ρ i).bind fun d => (f [d]).bind fun r => if flatD r = true then some (r, ρ) else none
theorem flat_dp {K : Kx} {F F' : Hp} {v : V} {d : D} (h : Rp K F v d) (fl : flatD d = true) : Rp K F' v d := by
  cases h with
  | dic _ _ _ => cases fl
  | dicE _ => cases fl
  | dicN _ _ => cases fl
  | non => exact .non
  | bl b => exact .bl b
  | int i => exact .int i
  | str x => exact .str x
  | lst _ _ => cases fl
  | tup _ _ => cases fl
theorem peek_dp {K : Kx} {F H : Hp} {σ : L2.St} {ρ : Env} {i : Nat} {d : D} (s : St K F H σ ρ) (h : peek ρ i = some d) : ∃ v, σ[i]? = some (some v) ∧ Rp K H v d := by
  unfold peek at h
  split at h
  · rename_i d' e
    cases h
    obtain ⟨v, e1, r⟩ := st_val s e
    exact ⟨v, e1, dp_mono s.sub _ _ r⟩
  · rename_i f d' e
    by_cases hnt : notT d' = true
    case neg =>
      rw [if_neg hnt] at h
      cases h
    rw [if_pos hnt] at h
    cases h
    obtain ⟨a, e1, o, _⟩ := st_owned s e
    obtain ⟨f0, o⟩ := o
    rcases o with ⟨xs, ds, rfl, hx, r⟩ | ⟨xs, es, rfl, hx, r⟩ | ⟨xs, es, rfl, hx, r⟩
    · exact ⟨.ref a, e1, .lst (SqL.of hx) (dpAll_mono s.sub _ _ r)⟩
    · exact ⟨.ref a, e1, .dicN hx (dpN_mono s.sub _ _ r)⟩
    · cases hnt
  · cases h
section
variable {X : Cx} {e a : Expr} {pos p py : Pos} {x y : Str}
def ixO (d x : D) : Option D := if notT d = true then ixD d x else none
def gIxB (i : Nat) (gi : Md D) : Md D := fun ρ => match ρ[i]? with
  | some (some (.val d)) => (gi ρ).bind fun p => (ixD d p.1).bind fun r => some (r, p.2)
  | some (some (.own _ _)) => (gi ρ).bind fun p => match p.2[i]? with
    | some (some (.own _ d)) => (ixO d p.1).bind fun r => some (r, p.2)
    | _ => none
  | _ => none
theorem de_ixB (i : Nat) {gi : Md D} (hN : X.N[i]? = some y) (hy : Vis X.env.scope y) (hi : DE X a gi) (hs : PlainIx a) (hdy : (y == ("__debug__" : Str)) = false := by decide) (hcd : (y == ("__classdict__" : Str)) = false := by decide) : DE X (.Subscript (.Name y py) a pos) (gIxB i gi) :=
  pe_imp (pe_ix (ix_list.or ix_D) (pe_var hN hy hdy hcd) hi hs) fun σ H Q q => by
    obtain ⟨F, ρ, d, ρ', s, eg, k⟩ := q
    unfold gIxB at eg
    split at eg
    · rename_i d0 h0
      obtain ⟨⟨di, ρ1⟩, e1, eg1⟩ := bind_some eg
      obtain ⟨r, e2, eg2⟩ := bind_some eg1
      cases eg2
      obtain ⟨v, ev, rv⟩ := st_val s h0
      exact ⟨v, ev, F, ρ, di, _, s, e1, fun u F1 H1 p1 s1 r1 => .inr ⟨F1, d0, di, _, s1.sub, dp_mono p1.ff _ _ rv, r1, e2, fun z F2 H2 gr rz => k z F2 H2 (p1.trans (gr.stp σ _)) (s1.grow gr) rz⟩⟩
    · rename_i b0 d0 h0
      obtain ⟨a0, ea, o0, _⟩ := st_owned s h0
      obtain ⟨⟨di, ρ1⟩, e1, eg1⟩ := bind_some eg
      simp only at eg1
      split at eg1
      · rename_i b1 d1 h1
        obtain ⟨r, e2, eg2⟩ := bind_some eg1
        cases eg2
        refine ⟨.ref a0, ea, F, ρ, di, _, s, e1, fun u F1 H1 p1 s1 r1 => .inl ?_⟩
        obtain ⟨a1, ea1, o1, _⟩ := st_owned s1 h1
        rw [ea] at ea1
        cases ea1
        obtain ⟨f1, o1⟩ := o1
        rcases o1 with ⟨xs, ds, rfl, hx, rx⟩ | ⟨xs, es, rfl, _⟩ | ⟨xs, es, rfl, _⟩
        case inr.inl => cases di <;> cases e2
        case inr.inr => cases e2
        have e2 : ixD (.list ds) di = some d := e2
        cases di with
        | int z =>
          obtain ⟨w, ew, rw'⟩ := da_ix rx e2
          cases r1
          exact ⟨a0, xs, z, w, rfl, rfl, SqL.of hx, ixA_at ew, k w F1 H1 p1 s1 rw'⟩
        | none => cases e2
        | bool _ => cases e2
        | str _ => cases e2
        | list _ => cases e2
        | tuple _ => cases e2
        | dict _ => cases e2
      · cases eg1
    · cases eg
def inT (d : D) : D → Option Bool
  | .list ds => if SeqAt.shaped d = true ∧ SeqAt.shaped (.list ds) = true then some (ds.any fun z => PyData.eqv z d) else none
  | .tuple ds => if flatD d = true ∧ ds.all flatD = true then some (ds.any fun z => PyData.eqv z d) else none
  | _ => none
def inD (d e : D) : Option D := (inT d e).bind fun b => some (.bool b)
def ninD (d e : D) : Option D := (inT d e).bind fun b => some (.bool !b)
theorem flat_V {K : Kx} {H : Hp} {v : V} {d : D} (h : Rp K H v d) (fl : flatD d = true) : flatV v = true := by
  cases h with
  | non => rfl
  | bl b => rfl
  | int i => rfl
  | str x => rfl
  | lst _ _ => cases fl
  | tup _ _ => cases fl
  | dic _ _ _ => cases fl
  | dicE _ => cases fl
  | dicN _ _ => cases fl
theorem eq_V {K : Kx} {H : Hp} {v w : V} {d e : D} (h : Rp K H v d) (h2 : Rp K H w e) (f1 : flatD d = true) (f2 : flatD e = true) : eqV v w = PyData.eqv d e := by
  cases h <;> (try cases f1) <;> cases h2 <;> (try cases f2) <;> simp [eqV, PyData.eqv]
theorem in_V {K : Kx} {H : Hp} {v : V} {d : D} (h : Rp K H v d) (f1 : flatD d = true) : ∀ {ds : List D} {vs : List V}, RpAll K H vs ds → ds.all flatD = true → vs.all flatV = true ∧ inV v vs = ds.any fun z => PyData.eqv z d
  | _, _, .nil, _ => ⟨rfl, rfl⟩
  | _, _, .cons r rs, f2 => by
    rw [List.all_cons, Bool.and_eq_true] at f2
    obtain ⟨h1, h2⟩ := in_V h f1 rs f2.2
    refine ⟨by rw [List.all_cons, flat_V r f2.1, h1]; rfl, ?_⟩
    unfold inV at h2 ⊢
    rw [List.any_cons, List.any_cons, h2, eq_V r h f2.1 f1]
theorem in_any (hu : X.A.units + 65 < cLine) {v w : V} {H : Hp} {Q : VK} {d e : D} {b : Bool} (hd : Rp (cxK X) H v d) (he : Rp (cxK X) H w e) (h : inT d e = some b) (q : Q (.bl b) H) : rInD (cxK X) v w H Q ∨ rIn (cxK X) false v w H Q := by
  unfold inT at h
  split at h
  · split at h
    · rename_i hs
      cases h
      exact .inl ⟨d, _, rp_dp hd (SeqAt.canLay_of_shaped hs.1), rp_dp he (SeqAt.canLay_of_shaped hs.2), hs.1, hs.2, q⟩
    · cases h
  · split at h
    · rename_i hs
      cases h
      cases he with
      | @tup a vs _ h1 d1 =>
        obtain ⟨z1, z2⟩ := in_V hd hs.1 d1 hs.2
        exact .inr ⟨a, vs, rfl, .inr h1, flat_V hd hs.1, z1, by rw [z2]; exact q⟩
    · cases h
  · cases h
theorem nin_any (hu : X.A.units + 65 < cLine) {v w : V} {H : Hp} {Q : VK} {d e : D} {b : Bool} (hd : Rp (cxK X) H v d) (he : Rp (cxK X) H w e) (h : inT d e = some b) (q : Q (.bl !b) H) : rNotInD (cxK X) v w H Q ∨ rIn (cxK X) true v w H Q := by
  unfold inT at h
  split at h
  · split at h
    · rename_i hs
      cases h
      exact .inl ⟨d, _, rp_dp hd (SeqAt.canLay_of_shaped hs.1), rp_dp he (SeqAt.canLay_of_shaped hs.2), hs.1, hs.2, q⟩
    · cases h
  · split at h
    · rename_i hs
      cases h
      cases he with
      | @tup a vs _ h1 d1 =>
        obtain ⟨z1, z2⟩ := in_V hd hs.1 d1 hs.2
        exact .inr ⟨a, vs, rfl, .inr h1, flat_V hd hs.1, z1, by rw [z2]; exact q⟩
    · cases h
  · cases h
theorem op_inD' (hu : X.A.units + 65 < cLine) : OpR X (compareOp .In) (rP2 (cxK X) inD) := by
  intro pins s σ H v w t u Q I rx ry h
  obtain ⟨F, d, e, r, sf, hd, he, ef, k⟩ := h
  obtain ⟨b, e1, e2⟩ := bind_some ef
  cases e2
  exact ((op_inD hu).or op_in_seq) pins s σ H v w t u Q I rx ry (in_any hu (dp_mono sf _ _ hd) (dp_mono sf _ _ he) e1 (k _ F H (Grow.refl sf) (.bl _)))
theorem op_ninD' (hu : X.A.units + 65 < cLine) : OpR X (compareOp .NotIn) (rP2 (cxK X) ninD) := by
  intro pins s σ H v w t u Q I rx ry h
  obtain ⟨F, d, e, r, sf, hd, he, ef, k⟩ := h
  obtain ⟨b, e1, e2⟩ := bind_some ef
  cases e2
  exact ((op_notInD hu).or op_notIn_seq) pins s σ H v w t u Q I rx ry (nin_any hu (dp_mono sf _ _ hd) (dp_mono sf _ _ he) e1 (k _ F H (Grow.refl sf) (.bl _)))
def gInB (neg : Bool) (i : Nat) (g : Md D) : Md D := fun ρ => (g ρ).bind fun p => (peek p.2 i).bind fun e => (inT p.1 e).bind fun b => some (.bool (if neg = true then !b else b), p.2)
def truT : D → Option Bool
  | .none => some false
  | .bool b => some b
  | .int i => some (i != 0)
  | .str x => if x.length ≤ 16777216 then some ((x.length : Int) != 0) else none
  | .list ds => some (!ds.isEmpty)
  | .tuple ds => some (!ds.isEmpty)
  | _ => none
theorem da_emp {K : Kx} {H : Hp} {vs : List V} {ds : List D} (h : RpAll K H vs ds) : vs.isEmpty = ds.isEmpty := by
  cases h <;> rfl
theorem tru_dp {K : Kx} {H : Hp} {v : V} {d : D} {b : Bool} (h : Rp K H v d) (e : truT d = some b) : TruV K v H b := by
  cases h with
  | non =>
    cases e
    exact rfl
  | bl b =>
    cases e
    exact rfl
  | int i =>
    cases e
    exact rfl
  | str x =>
    have e1 : (if x.length ≤ 16777216 then some ((x.length : Int) != 0) else none) = some b := e
    by_cases hl : x.length ≤ 16777216
    · rw [if_pos hl] at e1
      cases e1
      exact ⟨by rw [line_eq]; exact hl, rfl⟩
    · rw [if_neg hl] at e1
      cases e1
  | lst h1 d1 =>
    cases e
    exact .inl ⟨_, h1, by rw [da_emp d1]⟩
  | tup h1 d1 =>
    cases e
    exact .inr (.inl ⟨_, h1, by rw [da_emp d1]⟩)
  | dic _ _ _ => cases e
  | dicE _ => cases e
  | dicN _ _ => cases e
def gTru (g : Md D) : Md Bool := fun ρ => (g ρ).bind fun p => (truT p.1).bind fun b => some (b, p.2)
def gTruB (i : Nat) : Md Bool := fun ρ => (peek ρ i).bind fun d => (truT d).bind fun b => some (b, ρ)
theorem dt_tru {g : Md D} (ha : DE X a g) (he : ∀ whole, isTrue a X.env whole = (do let v ← whole; standAt a.pos; holding [v] (truthy v)) := by intro _; rfl) : DT X a (gTru g) :=
  pt_imp (pt_truth ha he) fun σ H Q q => by
    obtain ⟨F, ρ, d, ρ', s, eg, k⟩ := q
    obtain ⟨⟨d1, ρ1⟩, e1, eg1⟩ := bind_some eg
    obtain ⟨b, e2, eg2⟩ := bind_some eg1
    cases eg2
    exact ⟨F, ρ, d1, _, s, e1, fun v F1 H1 p1 s1 r1 => ⟨_, tru_dp (dp_mono s1.sub _ _ r1) e2, k F1 H1 p1 s1⟩⟩
theorem dts_one {c : Expr} {g : Md Bool} (h : DT X c g) : PTs X [c] (tDT (cxK X) g) := pts_one h
theorem ds_lcO {st : Stmt} {i : Nat} {vs is : List Nat} {gi : Md (List D)} {gt : D → Env → Option Env} {gc : Md Bool} {ge : Md D} (h : PS X st (fun E σ H => tLc (tDI (cxK X) gi) (tDG (cxK X) is gt) (tDT (cxK X) gc) (tD (cxK X) ge) vs σ H fun v H1 => E.nx (σ.set i (some v)) H1)) (hv : ∀ j ∈ is, j ∈ vs := by decide) : DS X st (sOwn i (gLc vs gi gt gc ge)) :=
  ps_imp h fun E σ H q => by
    obtain ⟨F, ρ, f, ρ', s, eg, k⟩ := q
    obtain ⟨⟨d, ρ1⟩, e1, eg1⟩ := bind_some eg
    obtain ⟨r, e2, eg2⟩ := bind_some eg1
    cases eg2
    refine lc_q hv ⟨F, ρ, d, ρ1, s, e1, fun a F1 H1 p1 s1 o no hn => k _ F1 H1 (stp_set p1 e2 fun _ _ b _ z => ?_) (st_set s1 e2 ⟨a, rfl, o.1⟩ fun f _ b z1 z => ?_)⟩
    · cases z
      exact hn
    · cases z
      cases z1
      exact ⟨rfl, no⟩
end
end Dn
set_option maxHeartbeats 2000000
namespace Dn
open PySem PySem.Spec PyProof.Rows L2
section
variable {X : Cx} {e a : Expr} {pos p py : Pos} {x y : Str}
theorem dv (i : Nat) {x : Str} (hN : X.N[i]? = some x := by rfl) (hv : Vis X.env.scope x := by first | exact Or.inl rfl | exact Or.inr (Or.inl rfl) | exact Or.inr (Or.inr rfl)) (hd : (x == ("__debug__" : Str)) = false := by decide) (hcd : (x == ("__classdict__" : Str)) = false := by decide) : DE X (.Name x pos) (gVar i) := de_var i hN hv hd hcd
theorem dz (i : Nat) {x : Str} (hN : X.N[i]? = some x := by rfl) (hv : Vis X.env.scope x := by first | exact Or.inl rfl | exact Or.inr (Or.inl rfl) | exact Or.inr (Or.inr rfl)) (hd : (x == ("__debug__" : Str)) = false := by decide) (hcd : (x == ("__classdict__" : Str)) = false := by decide) : DE X (.Name x pos) (gFrz i) := de_frz i hN hv hd hcd
theorem in65 {k : Nat} {A : Around} (hr : Room k A) : A.units + 65 < cLine := by
  have := hr.un
  omega
theorem db_ix (i : Nat) {gi : Md D} (hi : DE X a gi) (hN : X.N[i]? = some y := by rfl) (hy : Vis X.env.scope y := by first | exact Or.inl rfl | exact Or.inr (Or.inl rfl) | exact Or.inr (Or.inr rfl)) (hs : PlainIx a := by intro _ _; rfl) (hdy : (y == ("__debug__" : Str)) = false := by decide) (hcd : (y == ("__classdict__" : Str)) = false := by decide) : DE X (.Subscript (.Name y py) a pos) (gIxB i gi) := de_ixB i hN hy hi hs hdy hcd
theorem db_io (i : Nat) {k n : Nat} {f : Addr} {fd : FuncData} {ps : List Str} {es : List Expr} {g : D → List D → Option (D × D)} {gs : Md (List D)} (G : FnOk X.prog X.w (cxK X) X.mg X.base CX0 k f fd ps (spIO (cxK X) (n + 1) g)) (hr : Room k X.A) (hg : Gl X x) (hm : X.mg x = some (.ref f)) (hk : PySem.W.keepIn (cxK X) (.ref f) = true) (hb : Binds (cxK X) fd ps [])
    (ha : DA X es gs) (hlen : ∀ ρ ds ρ', gs ρ = some (ds, ρ') → ds.length = n) (hN : X.N[i]? = some y := by rfl) (hv : Vis X.env.scope y := by first | exact Or.inl rfl | exact Or.inr (Or.inl rfl) | exact Or.inr (Or.inr rfl))
    (hdb : (x == ("__debug__" : Str)) = false := by decide) (hdy : (y == ("__debug__" : Str)) = false := by decide) (hcd : (y == ("__classdict__" : Str)) = false := by decide) (he : starEach (.Name y py :: es) X.env = (false, eval (.Name y py) X.env) :: starEach es X.env := by rfl) (hpl : (backTo pos (starEach es X.env)).any (·.1) = false := by rfl) : DE X (.Call (.Name x p) (.Name y py :: es) [] pos) (gCallIO i g gs) := de_callIO i G hr hg hm hk hb hN hv ha hlen hdb hdy hcd he hpl
theorem db_setIx (i : Nat) {tpos : Pos} {gv gi : Md D} (he : DE X e gv) (hi : DE X a gi) (hN : X.N[i]? = some y := by rfl) (hv : Vis X.env.scope y := by first | exact Or.inl rfl | exact Or.inr (Or.inl rfl) | exact Or.inr (Or.inr rfl)) (hdy : (y == ("__debug__" : Str)) = false := by decide) (hcd : (y == ("__classdict__" : Str)) = false := by decide)
    (ha : ∀ v, assign (.Subscript (.Name y py) a tpos) X.env v = (do let ov ← holding [v] (eval (.Name y py) X.env); let iv ← holding [v, ov] (eval a X.env); standAt tpos; holding [v, ov, iv] (setItem ov iv v); release [v, ov, iv] []) := by intro _; rfl)
    (hs : swapsWithSole [.Subscript (.Name y py) a tpos] e pos.line X.env = pure false := by rfl) (hw : swappedStores [.Subscript (.Name y py) a tpos] e X.env = pure none := by rfl) : DS X (.Assign [.Subscript (.Name y py) a tpos] e pos) (sSetIx i gv gi) := ds_setIx i hN hv he hi hdy hcd ha hs hw
end
theorem bb_len : bootBuiltins "len" = some (.builtin "len") := by decide +kernel
theorem bb_abs : bootBuiltins "abs" = some (.builtin "abs") := by decide +kernel
theorem bb_max : bootBuiltins "max" = some (.builtin "max") := by decide +kernel
theorem bb_min : bootBuiltins "min" = some (.builtin "min") := by decide +kernel
theorem bt_int : bootBuiltins "int" = some (.type "int") := by decide +kernel
theorem bt_str : bootBuiltins "str" = some (.type "str") := by decide +kernel
end Dn
set_option maxHeartbeats 2000000
namespace Dn
open PySem PySem.Spec PyProof.Rows L2
section
variable {X : Cx} {tg e a b : Expr} {pos p py : Pos} {x y : Str}
def mulT : D → D → Option D
  | .str x, .int n => if 0 ≤ n ∧ n ≤ 1000 ∧ x.length ≤ 1000 then some (.str (Txt.mul x n)) else none
  | _, _ => none
def ItU (K : PySem.W.Frag) (a : Addr) : It :=
  ⟨fun i H => ∃ (xs : List V) (x : V), SqT K H a xs ∧ xs[i]? = some x, fun i H v H' => ∃ T x, v = .ref T ∧ H T = none ∧ H' = upd H T (.tup [.int (i : Nat), x]) ∧ ∀ xs, SqT K H a xs → xs[i]? = some x, fun i H => ∃ xs : List V, SqT K H a xs ∧ xs.length ≤ i⟩
theorem turn_enumT {P : Program} {w : World} {K : PySem.W.Frag} {elts : List Expr} {kk : Nat} {tpos : Pos} (a e it : Addr) (hai : a ≠ it) (hae : a ≠ e) :
    Turn P w K (.Tuple elts kk tpos) (ItU K a) [e, it] e (fun i h => (∃ old, IsEnum h e it ((i : Nat) : Int) old) ∧ h.IsTupleIter it a i ∧ e ≠ it) where
  mem := by simp
  obj := fun i h st b hb => by
    obtain ⟨⟨old, he⟩, ⟨o, ho, hc, hd⟩, _⟩ := st
    have e' : b = e ∨ b = it := by simpa using hb
    rcases e' with z | z
    · rw [z]; exact ⟨_, he, fun v q => nomatch q⟩
    · rw [z]; exact ⟨o, ho, fun v q => by rw [hd] at q; cases q⟩
  keep := fun i h h' st k => let ⟨⟨old, he⟩, hi, hne⟩ := st; ⟨⟨old, k e (by simp) _ he⟩, hi.at fun o q => k it (by simp) o q, hne⟩
  item := by
    intro X hP hw hK hc i pins s σ H E I hf st hg
    subst hP hw hK
    obtain ⟨⟨old, he⟩, hit, hne⟩ := st
    obtain ⟨xs, x, hq, hx⟩ := hg
    obtain ⟨its, rv, p, hz⟩ := I.tuple hq
    obtain ⟨u, hu, ru⟩ := rv.get hx
    have p' : s.heap.IsTuple a its.toArray := p
    have hel : e < s.heap.objs.size := Heap.lt_size he
    have hil : it < s.heap.objs.size := by obtain ⟨_, q, _⟩ := hit; exact Heap.lt_size q
    refine wpAny_pyNext_enum_itemD (fp := [it, a]) (Draws.tuple (A := X.A.in1) (I.ok.hd hc) it a hai its.toArray) he ⟨hit, p'⟩ (by have := (List.getElem?_eq_some_iff.mp hu).1; simpa using this) hne (by simp [hne, Ne.symm hae]) fun x' h' tk hP ho st' hT hsz hk => ?_
    have ex : x' = u := by
      have h1 : its.toArray[i]? = some u := by simpa using hu
      exact Option.some.inj (hP.symm.trans h1)
    subst ex
    obtain ⟨hit', _⟩ := st'
    refine ⟨_, rfl, wpAny_letOwnedTupleGo_enum (s := { s with heap := h', toks := tk + 1 }) ho fun h'' he' sb => ?_⟩
    have hT2 : h''.get? s.heap.objs.size = some { cls := .type "tuple", data := .seq #[.int i tk, x'] } := (sb.2 _ (Nat.ne_of_gt hel)).trans hT
    have new : ObjOk X.prog X.w (upd H s.heap.objs.size (.tup [.int (i : Nat), x])) h'' s.heap.objs.size (.tup [.int (i : Nat), x]) :=
      ⟨by show 2 ≤ sizeLine; decide, [.int i tk, x'], .cons ⟨_, rfl⟩ (.cons ru .nil), ⟨_, hT2, rfl, _, rfl⟩⟩
    have I1 : Inv X pins σ (upd H s.heap.objs.size (.tup [.int (i : Nat), x])) { s with heap := h'', toks := tk + 1 } :=
      I.turnedNew (ch := [e, it]) (fun b ob hb q => (sb.2 b (fun z => hb (by simp [z]))).trans (hk b ob (fun z => hb (by simp [z])) (fun z => hb (by simp [z])) q)) hf (Nat.le_refl _) new
    refine ⟨.ref s.heap.objs.size, _, I1, rfl, ⟨_, x, rfl, I.hok.fresh (Nat.le_refl _), rfl, fun ys hy => by rw [I.tuple_inj hy hq]; exact hx⟩, ⟨⟨x', ?_⟩, hit'.at fun o q => (sb.2 it (Ne.symm hne)).trans q, hne⟩, fun b hb => ?_⟩
    · have e1 : ((i + 1 : Nat) : Int) = (i : Int) + 1 := by omega
      rw [e1]; exact he'
    · have hb' : b < s.heap.objs.size := by
        have e' : b = e ∨ b = it := by simpa using hb
        rcases e' with z | z
        · rw [z]; exact hel
        · rw [z]; exact hil
      rw [upd_ne (Nat.ne_of_lt hb')]
      exact (hf b hb).1
  done := by
    intro X hP hw hK hc i pins s σ H E I hf st hg
    subst hP hw hK
    obtain ⟨⟨old, he⟩, hit, hne⟩ := st
    obtain ⟨xs, hq, hx⟩ := hg
    obtain ⟨its, rv, p, hz⟩ := I.tuple hq
    obtain ⟨f0, f1, f2, f3, f4, f5⟩ := hf it (by simp)
    have hl := rv.length
    have p' : s.heap.IsTuple a its.toArray := p
    have D : Draws X.prog X.w X.A.in1 it [it, a] i (fun _ _ => True) (fun j h => j = i ∧ h.IsTupleIter it a i ∧ h.IsTuple a its.toArray) :=
      { live := fun _ _ st => let ⟨o, ho, _⟩ := st.2.1; ⟨o, ho⟩
        frame := fun _ _ _ st hk => ⟨st.1, st.2.1.at fun o e => hk it (by simp) o e, st.2.2.at fun o e => hk a (by simp) o e⟩
        item := fun j s Q E hi st hQ => absurd st.1 (by omega)
        done := fun s Q E st hE => wpAny_nextOf_tuple_end (I.ok.hd hc) st.2.1 st.2.2 (by simp; omega) hE }
    exact wpAny_pyNext_enum_endD (n := i) D he ⟨rfl, hit, p'⟩ fun h' eb => ⟨rfl, I.turned (t' := s.toks) (fun b o hb q => eb b o hb q) f0 f1 f3 f4 f5⟩
  self := fun A i s Q E st h => let ⟨⟨_, he⟩, _⟩ := st; wpAny_pyIter_enum he h
section
variable {prog : Program} {w : World} {A : Around} {E : Value → Shared → Prop} {s : Shared}
theorem meets_enumerate_newT (l : Addr) (items : Array Value) :
    Meets (Builtin.«enumerate.__new__» ⟨[.type "enumerate", .ref l], []⟩) (fun _ R s => s.heap.IsTuple l items ∧
      R (.ok (.ret (.ref (s.heap.push { cls := .type "tuple_iterator", data := .fields #[.ref l, .int 0 0] }).objs.size)))
        { s with heap := (s.heap.push { cls := .type "tuple_iterator", data := .fields #[.ref l, .int 0 0] }).push { cls := .type "enumerate", data := .fields #[.none, .bool false, .ref s.heap.objs.size, rawInt 0, .none, .none] } }) :=
  .of_wp fun prog w A R s h => by
    obtain ⟨hp, g, d, tk, os⟩ := s; obtain ⟨hL, h⟩ := h
    have hsub := sub_enumerate
    obtain ⟨o, hl, hc, hd⟩ := id hL
    wp_walk using AutoSeq1.wpAny_loadPart' hl
    refine wpAny_stack_any fun st => wpAny_pure ?_
    split
    · rename_i c _ _ _ _ _
      cases (c == Value.type "enumerate")
      · wp_walk using AutoSeq1.wpAny_loadPart' hl, wpAny_pyIter_tuple hL
        exact ⟨_, rfl, h⟩
      · wp_walk using AutoSeq1.wpAny_loadPart' hl, wpAny_pyIter_tuple hL
        exact ⟨_, rfl, h⟩
    · wp_walk using AutoSeq1.wpAny_loadPart' hl, wpAny_pyIter_tuple hL
      exact ⟨_, rfl, h⟩
theorem call_enumerate_tuple {l : Addr} {items : Array Value} {Q : Value → Shared → Prop} (hL : s.heap.IsTuple l items)
    (h : ∀ h', IsEnum h' (s.heap.objs.size + 1) s.heap.objs.size 0 .none → h'.IsTupleIter s.heap.objs.size l 0 → h'.objs.size = s.heap.objs.size + 2 →
      (∀ b o, s.heap.get? b = some o → h'.get? b = some o) → Q (.ref (s.heap.objs.size + 1)) { s with heap := h' }) :
    wpAny (model prog w) A (call (.type "enumerate") [.ref l]) Q E s := by
  refine callType_new PySem.F.called_enumerate (by decide) (PySem.F.typeCall_enumerate_1 _) (PySem.F.newCall_enumerate_1 _) (fun obj => PySem.F.args_object_init_2 obj _) PySem.F.entry_enumerate_new
    (meets_enumerate_newT l items) ⟨hL, ?_⟩
  have hz : (s.heap.push { cls := .type "tuple_iterator", data := .fields #[.ref l, .int 0 0] }).objs.size = s.heap.objs.size + 1 := Heap.size_push ..
  show _ ∧ _
  rw [hz]
  have he : IsEnum ((s.heap.push { cls := .type "tuple_iterator", data := .fields #[.ref l, .int 0 0] }).push
      { cls := .type "enumerate", data := .fields #[.none, .bool false, .ref s.heap.objs.size, rawInt 0, .none, .none] }) (s.heap.objs.size + 1) s.heap.objs.size 0 .none := by
    have := Heap.get?_push_size (s.heap.push { cls := .type "tuple_iterator", data := .fields #[.ref l, .int 0 0] })
      (o := { cls := .type "enumerate", data := .fields #[.none, .bool false, .ref s.heap.objs.size, rawInt 0, .none, .none] }) rfl
    rw [hz] at this; exact this
  refine ⟨⟨_, he, rfl⟩, h _ he ⟨_, Heap.get?_push_of_some _ (Heap.get?_push_size _ rfl), rfl, rfl⟩ (by rw [Heap.size_push, hz]) fun b o x => Heap.get?_push_of_some _ (Heap.get?_push_of_some _ x)⟩
end
def iEnumA (K : PySem.W.Frag) (ta : TA) : TI := fun σ H R => ta σ H fun vs H1 => ∃ a xs, vs = [.ref a] ∧ ((SqL K H1 a xs ∧ R (Ite K a) H1) ∨ (SqT K H1 a xs ∧ R (ItU K a) H1))
theorem pi_enumA {ta : TA} {tpos : Pos} {elts : List Expr} {kk : Nat} (hg : Gl X "enumerate") (hm : X.mg "enumerate" = none) (ha : PA X [e] ta) (hs : starEach [e] X.env = [(false, eval e X.env)] := by rfl) :
    PI X (.Tuple elts kk tpos) (.Call (.Name "enumerate" p) [e] [] pos) (iEnumA X.K ta) := by
  refine ⟨fun pins s σ H R I h => ?_⟩
  refine Call_ (ld_blt I hg hm boot_enumerate (PyProof.Rows.callWith_type1 (thn (ha.run pos pins s σ H _ I h) fun us s1 ⟨vs, H1, I1, r1, q1⟩ => ?_) hs rfl))
  obtain ⟨a, xs, ex, q⟩ := q1
  subst ex
  cases r1 with
  | cons r rr =>
    cases rr
    cases r
    have fps : ∀ b ∈ [s1.heap.objs.size + 1, s1.heap.objs.size], FpOk X pins H1 b := fun b hb => by
      have e' : b = s1.heap.objs.size + 1 ∨ b = s1.heap.objs.size := by simpa using hb
      have hle : s1.heap.objs.size ≤ b := by
        rcases e' with z | z
        · rw [z]; exact Nat.le_add_right _ _
        · rw [z]; exact Nat.le_refl _
      exact I1.fpOk hle (I1.hok.fresh hle)
    rcases q with ⟨hq, q⟩ | ⟨hq, q⟩
    · obtain ⟨its, rv, p', hz⟩ := I1.list hq
      refine call_enumerate_list p'.isList fun h' he hit hsz hk => wpAny_pyIter_enum he ?_
      have I2 : Inv X pins σ H1 { s1 with heap := h' } := I1.kept (t' := s1.toks) hk
      exact ⟨s1.heap.objs.size + 1, [s1.heap.objs.size + 1, s1.heap.objs.size], _, _, H1, rfl, I2, turn_enum a (s1.heap.objs.size + 1) s1.heap.objs.size, ⟨⟨.none, he⟩, hit, Nat.succ_ne_self _⟩, fps, q⟩
    · obtain ⟨its, rv, p', hz⟩ := I1.tuple hq
      have p2 : s1.heap.IsTuple a its.toArray := p'
      have hal : a < s1.heap.objs.size := by obtain ⟨_, q, _⟩ := p2; exact Heap.lt_size q
      refine call_enumerate_tuple p2 fun h' he hit hsz hk => wpAny_pyIter_enum he ?_
      have I2 : Inv X pins σ H1 { s1 with heap := h' } := I1.kept (t' := s1.toks) hk
      exact ⟨s1.heap.objs.size + 1, [s1.heap.objs.size + 1, s1.heap.objs.size], _, _, H1, rfl, I2, turn_enumT a (s1.heap.objs.size + 1) s1.heap.objs.size (Nat.ne_of_lt hal) (Nat.ne_of_lt (Nat.lt_succ_of_lt hal)), ⟨⟨.none, he⟩, hit, Nat.succ_ne_self _⟩, fps, q⟩
def enumL : Nat → List D → List D
  | _, [] => []
  | i, d :: ds => .tuple [.int i, d] :: enumL (i + 1) ds
theorem enumL_len : ∀ (i : Nat) (ds : List D), (enumL i ds).length = ds.length
  | _, [] => rfl
  | i, d :: ds => congrArg (· + 1) (enumL_len (i + 1) ds)
theorem enumL_get : ∀ (i j : Nat) (ds : List D), (enumL i ds)[j]? = ds[j]?.map fun d => .tuple [.int (i + j : Nat), d]
  | _, _, [] => rfl
  | i, 0, d :: ds => rfl
  | i, j + 1, d :: ds => by
    have e := enumL_get (i + 1) j ds
    have e2 : i + 1 + j = i + (j + 1) := by omega
    rw [e2] at e
    exact e
def enumOf (ds : List D) : Option (List D) := match ds with
  | [.list xs] => some (enumL 0 xs)
  | [.tuple xs] => some (enumL 0 xs)
  | _ => none
def gEnum (gs : Md (List D)) : Md (List D) := fun ρ => (gs ρ).bind fun p => (enumOf p.1).bind fun ds => some (ds, p.2)
theorem it_enum {K : Kx} {F : Hp} {a : Addr} {vs : List V} {ds : List D} (h : SqL K F a vs) (r : RpAll K F vs ds) : ItOk K F (Ite K a) (enumL 0 ds) := fun F1 H s1 s2 i => by
  have hH := (s1.trans s2).seq h
  refine ⟨fun d e => ?_, fun hl => ⟨vs, hH, by rw [da_len r, ← enumL_len 0]; exact hl⟩⟩
  rw [enumL_get] at e
  obtain ⟨d0, e0, ed⟩ := Option.map_eq_some_iff.mp e
  subst ed
  obtain ⟨v, e1, rv⟩ := da_at r e0
  refine ⟨⟨vs, v, hH, e1⟩, fun y H' hy => ?_⟩
  obtain ⟨T, x, rfl, hT, rfl, hy⟩ := hy
  have e2 := (hy vs hH).symm.trans e1
  cases e2
  have gr : Grow F1 H (upd F1 T (.tup [.int (i : Nat), v])) (upd H T (.tup [.int (i : Nat), v])) := Grow.val s2 hT
  refine ⟨_, gr, .tup (.inl (.inl upd_same)) (.cons ?_ (.cons (dp_mono (s1.trans gr.ff) _ _ rv) .nil))⟩
  rw [Nat.zero_add]
  exact .int _
theorem it_enumT {K : Kx} {F : Hp} {a : Addr} {vs : List V} {ds : List D} (h : SqT K F a vs) (r : RpAll K F vs ds) : ItOk K F (ItU K a) (enumL 0 ds) := fun F1 H s1 s2 i => by
  have hH := seqT_same (s1.trans s2) h
  refine ⟨fun d e => ?_, fun hl => ⟨vs, hH, by rw [da_len r, ← enumL_len 0]; exact hl⟩⟩
  rw [enumL_get] at e
  obtain ⟨d0, e0, ed⟩ := Option.map_eq_some_iff.mp e
  subst ed
  obtain ⟨v, e1, rv⟩ := da_at r e0
  refine ⟨⟨vs, v, hH, e1⟩, fun y H' hy => ?_⟩
  obtain ⟨T, x, rfl, hT, rfl, hy⟩ := hy
  have e2 := (hy vs hH).symm.trans e1
  cases e2
  have gr : Grow F1 H (upd F1 T (.tup [.int (i : Nat), v])) (upd H T (.tup [.int (i : Nat), v])) := Grow.val s2 hT
  refine ⟨_, gr, .tup (.inl (.inl upd_same)) (.cons ?_ (.cons (dp_mono (s1.trans gr.ff) _ _ rv) .nil))⟩
  rw [Nat.zero_add]
  exact .int _
theorem di_enum {gs : Md (List D)} {tpos : Pos} {elts : List Expr} {kk : Nat} (hg : Gl X "enumerate") (hm : X.mg "enumerate" = none) (ha : DA X [e] gs) (hs : starEach [e] X.env = [(false, eval e X.env)] := by rfl) :
    DI X (.Tuple elts kk tpos) (.Call (.Name "enumerate" p) [e] [] pos) (gEnum gs) :=
  pi_imp (pi_enumA hg hm ha hs) fun σ H R q => by
    obtain ⟨F, ρ, ds, ρ', s, eg, k⟩ := q
    obtain ⟨⟨d, ρ1⟩, e1, eg1⟩ := bind_some eg
    obtain ⟨z, e2, eg2⟩ := bind_some eg1
    cases eg2
    refine ⟨F, ρ, d, _, s, e1, fun vs F1 H1 p1 s1 r1 => ?_⟩
    simp only at e2
    unfold enumOf at e2
    split at e2
    · cases e2
      obtain ⟨v, rfl, rv⟩ := da1 r1
      cases rv with
      | @lst a vs _ h1 d1 => exact ⟨a, vs, rfl, .inl ⟨s1.sub.seq h1, k _ F1 H1 p1 s1 (it_enum h1 d1)⟩⟩
    · cases e2
      obtain ⟨v, rfl, rv⟩ := da1 r1
      cases rv with
      | @tup a vs _ h1 d1 => exact ⟨a, vs, rfl, .inr ⟨seqT_same s1.sub h1, k _ F1 H1 p1 s1 (it_enumT h1 d1)⟩⟩
    · cases e2
def keyOf : D → Option Key
  | .int i => some (.inl i)
  | .str x => some (.inr x)
  | _ => none
def gKV : List (Md D × Md D) → Md (List (D × D))
  | [] => fun ρ => some ([], ρ)
  | (gk, gv) :: r => fun ρ => (gk ρ).bind fun p => (gv p.2).bind fun q => (gKV r q.2).bind fun z => some ((p.1, q.1) :: z.1, z.2)
def keysOk (es : List (D × D)) : Bool := es.all (fun p => (keyOf p.1).isSome) && decide ((es.map fun p => keyOf p.1).Nodup) && decide (es.length ≤ 15)
def gDic (gs : List (Md D × Md D)) : Md D := fun ρ => (gKV gs ρ).bind fun p => if keysOk p.1 = true then some (.dict p.1, p.2) else none
theorem keyD_of {d : D} {k : Key} (h : keyOf d = some k) : keyD k = d := by
  cases d <;> simp [keyOf] at h <;> subst h <;> rfl
theorem rp_key {K : Kx} {F : Hp} {v : V} {d : D} {k : Key} (r : Rp K F v d) (h : keyOf d = some k) : v = kV k := by
  cases d <;> simp [keyOf] at h <;> subst h <;> cases r <;> rfl
inductive DKV (X : Cx) (pos : Pos) : List (Option Expr) → List Expr → List (Md D × Md D) → Prop
  | nil : DKV X pos [] [] []
  | cons {k v : Expr} {ks : List (Option Expr)} {vs : List Expr} {gk gv : Md D} {r : List (Md D × Md D)} (h1 : DE X k gk) (h2 : DE X v gv) (h3 : DKV X pos ks vs r) : DKV X pos (some k :: ks) (v :: vs) ((gk, gv) :: r)
def tOf (X : Cx) (gs : List (Md D × Md D)) : List (TE × TE) := gs.map fun p => (tD (cxK X) p.1, tD (cxK X) p.2)
theorem DKV.pps {ks : List (Option Expr)} {vs : List Expr} {gs : List (Md D × Md D)} (h : DKV X pos ks vs gs) : PPs X pos ks vs (tOf X gs) := by
  induction h with
  | nil => exact pps_nil
  | cons h1 h2 h3 ih => exact pps_cons h1 h2 ih
theorem DKV.facts {ks : List (Option Expr)} {vs : List Expr} {gs : List (Md D × Md D)} (h : DKV X pos ks vs gs) : ks.all (·.isSome) = true ∧ ks.length = vs.length ∧ ks.length = gs.length := by
  induction h with
  | nil => exact ⟨rfl, rfl, rfl⟩
  | cons h1 h2 h3 ih => exact ⟨by simpa using ih.1, by simp [ih.2.1], by simp [ih.2.2]⟩
inductive RpP (K : Kx) (F : Hp) : List (V × V) → List (D × D) → Prop
  | nil : RpP K F [] []
  | cons {k v : V} {dk dv : D} {ps : List (V × V)} {es : List (D × D)} (h1 : Rp K F k dk) (h2 : Rp K F v dv) (h3 : RpP K F ps es) : RpP K F ((k, v) :: ps) ((dk, dv) :: es)
theorem tkv_q {K : Kx} : ∀ (gs : List (Md D × Md D)) {σ : L2.St} {F H : Hp} {ρ ρ' : Env} {es : List (D × D)} {Q : List (V × V) → Hp → Prop} (s : St K F H σ ρ) (e : gKV gs ρ = some (es, ρ'))
    (k : ∀ ps F' H', Stp F σ ρ H F' σ ρ' H' → St K F' H' σ ρ' → RpP K F' ps es → Q ps H'), tPairs (gs.map fun p => (tD K p.1, tD K p.2)) σ H Q
  | [], σ, F, H, ρ, ρ', es, Q, s, e, k => by
    cases e
    exact k [] F H Stp.refl s .nil
  | (gk, gv) :: r, σ, F, H, ρ, ρ', es, Q, s, e, k => by
    obtain ⟨⟨dk, ρ1⟩, e1, e⟩ := bind_some e
    obtain ⟨⟨dv, ρ2⟩, e2, e⟩ := bind_some e
    obtain ⟨⟨z, ρ3⟩, e3, e⟩ := bind_some e
    cases e
    refine ⟨F, ρ, dk, ρ1, s, e1, fun x F1 H1 p1 s1 r1 => ⟨F1, ρ1, dv, ρ2, s1, e2, fun y F2 H2 p2 s2 r2 => tkv_q r s2 e3 fun ps F3 H3 p3 s3 r3 => k _ F3 H3 ((p1.trans p2).trans p3) s3 (.cons (dp_mono (p2.ff.trans p3.ff) _ _ r1) (dp_mono p3.ff _ _ r2) r3)⟩⟩
theorem rpP_kv {K : Kx} {F : Hp} {ps : List (V × V)} {es : List (D × D)} (r : RpP K F ps es) : es.all (fun p => (keyOf p.1).isSome) = true → ∃ kvs : List (Key × V), ps = kvs.map (fun kv => (kV kv.1, kv.2)) ∧ RpKV K F kvs es ∧ kvs.map (fun kv => some kv.1) = es.map fun p => keyOf p.1 := by
  induction r with
  | nil => exact fun _ => ⟨[], rfl, .nil, rfl⟩
  | @cons k v dk dv ps es h1 h2 h3 ih =>
    intro hk
    rw [List.all_cons, Bool.and_eq_true] at hk
    obtain ⟨kvs, i1, i2, i3⟩ := ih hk.2
    obtain ⟨q, hq⟩ := Option.isSome_iff_exists.mp hk.1
    simp only at hq
    have e1 := rp_key h1 hq
    subst e1
    have e2 := keyD_of hq
    subst e2
    exact ⟨(q, v) :: kvs, by rw [i1]; rfl, .cons h2 i2, by simp [i3, hq]⟩
theorem putK_new {kvs : List (Key × V)} {k : Key} {v : V} (h : ∀ p ∈ kvs, p.1 ≠ k) : putK kvs k v = kvs ++ [(k, v)] := by
  unfold putK
  rw [if_neg]
  intro q
  obtain ⟨p, hp, e⟩ := List.any_eq_true.mp q
  exact h p hp (of_decide_eq_true e)
theorem mergeK_new : ∀ {more kvs : List (Key × V)}, ((kvs ++ more).map (·.1)).Nodup → mergeK kvs more = kvs ++ more
  | [], kvs, _ => (List.append_nil kvs).symm
  | (k, v) :: r, kvs, h => by
    have h1 : ∀ p ∈ kvs, p.1 ≠ k := fun p hp e => by
      rw [List.map_append, List.nodup_append] at h
      exact h.2.2 p.1 (List.mem_map.mpr ⟨p, hp, rfl⟩) k (by simp) e
    show mergeK (putK kvs k v) r = _
    rw [putK_new h1, mergeK_new (by simpa using h), List.append_assoc]
    rfl
end
end Dn
set_option maxHeartbeats 2000000
namespace DnSo
open PySem PySem.SeqAt PyProof.Rows PySem.W SrtO DnLt
def rk3 : PyData → Nat
  | .none => 0
  | .bool _ => 1
  | .int _ => 2
  | .str _ => 3
  | .tuple _ => 4
  | .list _ => 5
  | .dict _ => 6
mutual
def cmp3 : PyData → PyData → Ordering
  | .int i, .int j => if i < j then .lt else if j < i then .gt else .eq
  | .str a, .str b => if a.cps.toList < b.cps.toList then .lt else if b.cps.toList < a.cps.toList then .gt else .eq
  | .tuple xs, .tuple ys => cmpL xs ys
  | d, e => if rk3 d < rk3 e then .lt else if rk3 e < rk3 d then .gt else .eq
def cmpL : List PyData → List PyData → Ordering
  | [], [] => .eq
  | [], _ :: _ => .lt
  | _ :: _, [] => .gt
  | x :: xs, y :: ys => (cmp3 x y).then (cmpL xs ys)
end
theorem cmp3_rk {d e : PyData} (h : rk3 d ≠ rk3 e) : cmp3 d e = if rk3 d < rk3 e then .lt else .gt := by
  have hl : ¬ rk3 d < rk3 e → rk3 e < rk3 d := by omega
  cases d <;> cases e <;> first | (exfalso; exact h rfl) | (simp [cmp3, rk3])
theorem lst_tri (a b : List Nat) : a < b ∨ a = b ∨ b < a := by
  by_cases h : a < b
  · exact .inl h
  · by_cases h2 : b < a
    · exact .inr (.inr h2)
    · exact .inr (.inl (List.le_antisymm (List.not_lt.mp h2) (List.not_lt.mp h)))
theorem rk_le {d e : PyData} (h : cmp3 d e ≠ .gt) : rk3 d ≤ rk3 e := by
  by_cases q : rk3 d = rk3 e
  · omega
  · rw [cmp3_rk q] at h
    by_cases a : rk3 d < rk3 e
    · omega
    · simp [a] at h
theorem rk_lt {d e : PyData} (h : rk3 d < rk3 e) : cmp3 d e = .lt := by
  rw [cmp3_rk (by omega), if_pos h]
theorem swap_rk {d e : PyData} (h : rk3 d ≠ rk3 e) : cmp3 e d = (cmp3 d e).swap := by
  rw [cmp3_rk h, cmp3_rk (Ne.symm h)]
  by_cases a : rk3 d < rk3 e
  · rw [if_pos a, if_neg (by omega)]
    rfl
  · rw [if_neg a, if_pos (by omega)]
    rfl
theorem trans_rk {d e f : PyData} (h : ¬ (rk3 d = rk3 e ∧ rk3 e = rk3 f)) (h1 : cmp3 d e ≠ .gt) (h2 : cmp3 e f ≠ .gt) : cmp3 d f = (cmp3 d e).then (cmp3 e f) := by
  have a := rk_le h1
  have b := rk_le h2
  rw [rk_lt (show rk3 d < rk3 f by omega)]
  by_cases q : rk3 d < rk3 e
  · rw [rk_lt q]
    rfl
  · rw [rk_lt (show rk3 e < rk3 f by omega)]
    cases hc : cmp3 d e with
    | lt => rfl
    | eq => rfl
    | gt => exact absurd hc h1
theorem trans_int {i j k : Int} (h1 : cmp3 (.int i) (.int j) ≠ .gt) (h2 : cmp3 (.int j) (.int k) ≠ .gt) : cmp3 (.int i) (.int k) = (cmp3 (.int i) (.int j)).then (cmp3 (.int j) (.int k)) := by
  simp only [cmp3] at h1 h2 ⊢
  have e1 : ¬ j < i := fun z => by
    rw [if_neg (show ¬ i < j by omega), if_pos z] at h1
    exact h1 rfl
  have e2 : ¬ k < j := fun z => by
    rw [if_neg (show ¬ j < k by omega), if_pos z] at h2
    exact h2 rfl
  by_cases a : i < j
  · rw [if_pos a, if_pos (show i < k by omega)]
    rfl
  · have : i = j := by omega
    subst this
    rw [if_neg a, if_neg a]
    rfl
theorem trans_str {i j k : Str} (h1 : cmp3 (.str i) (.str j) ≠ .gt) (h2 : cmp3 (.str j) (.str k) ≠ .gt) : cmp3 (.str i) (.str k) = (cmp3 (.str i) (.str j)).then (cmp3 (.str j) (.str k)) := by
  simp only [cmp3] at h1 h2 ⊢
  generalize i.cps.toList = i at h1 ⊢
  generalize k.cps.toList = k at h2 ⊢
  generalize j.cps.toList = j at h1 h2 ⊢
  have e1 : ¬ j < i := fun z => by
    rw [if_neg (fun y => List.lt_asymm y z), if_pos z] at h1
    exact h1 rfl
  have e2 : ¬ k < j := fun z => by
    rw [if_neg (fun y => List.lt_asymm y z), if_pos z] at h2
    exact h2 rfl
  by_cases a : i < j
  · have b : i < k := by
      rcases lst_tri j k with h | h | h
      · exact List.lt_trans a h
      · exact h ▸ a
      · exact absurd h e2
    rw [if_pos a, if_pos b]
    rfl
  · have : i = j := List.le_antisymm (List.not_lt.mp e1) (List.not_lt.mp a)
    subst this
    rw [if_neg a, if_neg a]
    rfl
mutual
theorem trans3 : ∀ (d e f : PyData), cmp3 d e ≠ .gt → cmp3 e f ≠ .gt → cmp3 d f = (cmp3 d e).then (cmp3 e f)
  | .tuple xs, e, f, h1, h2 => by
    by_cases q : rk3 (.tuple xs) = rk3 e ∧ rk3 e = rk3 f
    · obtain ⟨q1, q2⟩ := q
      cases e <;> simp only [rk3, reduceCtorEq, Nat.reduceEqDiff] at q1
      cases f <;> simp only [rk3, reduceCtorEq, Nat.reduceEqDiff] at q2
      simp only [cmp3] at h1 h2 ⊢
      exact transL xs _ _ h1 h2
    · exact trans_rk q h1 h2
  | .int i, e, f, h1, h2 => by
    by_cases q : rk3 (.int i) = rk3 e ∧ rk3 e = rk3 f
    · obtain ⟨q1, q2⟩ := q
      cases e <;> simp only [rk3, reduceCtorEq, Nat.reduceEqDiff] at q1
      cases f <;> simp only [rk3, reduceCtorEq, Nat.reduceEqDiff] at q2
      exact trans_int h1 h2
    · exact trans_rk q h1 h2
  | .str i, e, f, h1, h2 => by
    by_cases q : rk3 (.str i) = rk3 e ∧ rk3 e = rk3 f
    · obtain ⟨q1, q2⟩ := q
      cases e <;> simp only [rk3, reduceCtorEq, Nat.reduceEqDiff] at q1
      cases f <;> simp only [rk3, reduceCtorEq, Nat.reduceEqDiff] at q2
      exact trans_str h1 h2
    · exact trans_rk q h1 h2
  | .none, e, f, h1, h2 => by
    by_cases q : rk3 .none = rk3 e ∧ rk3 e = rk3 f
    · obtain ⟨q1, q2⟩ := q
      cases e <;> simp only [rk3, reduceCtorEq, Nat.reduceEqDiff] at q1
      cases f <;> simp only [rk3, reduceCtorEq, Nat.reduceEqDiff] at q2
      simp [cmp3, rk3]
    · exact trans_rk q h1 h2
  | .bool i, e, f, h1, h2 => by
    by_cases q : rk3 (.bool i) = rk3 e ∧ rk3 e = rk3 f
    · obtain ⟨q1, q2⟩ := q
      cases e <;> simp only [rk3, reduceCtorEq, Nat.reduceEqDiff] at q1
      cases f <;> simp only [rk3, reduceCtorEq, Nat.reduceEqDiff] at q2
      simp [cmp3, rk3]
    · exact trans_rk q h1 h2
  | .list i, e, f, h1, h2 => by
    by_cases q : rk3 (.list i) = rk3 e ∧ rk3 e = rk3 f
    · obtain ⟨q1, q2⟩ := q
      cases e <;> simp only [rk3, reduceCtorEq, Nat.reduceEqDiff] at q1
      cases f <;> simp only [rk3, reduceCtorEq, Nat.reduceEqDiff] at q2
      simp [cmp3, rk3]
    · exact trans_rk q h1 h2
  | .dict i, e, f, h1, h2 => by
    by_cases q : rk3 (.dict i) = rk3 e ∧ rk3 e = rk3 f
    · obtain ⟨q1, q2⟩ := q
      cases e <;> simp only [rk3, reduceCtorEq, Nat.reduceEqDiff] at q1
      cases f <;> simp only [rk3, reduceCtorEq, Nat.reduceEqDiff] at q2
      simp [cmp3, rk3]
    · exact trans_rk q h1 h2
theorem transL : ∀ (xs ys zs : List PyData), cmpL xs ys ≠ .gt → cmpL ys zs ≠ .gt → cmpL xs zs = (cmpL xs ys).then (cmpL ys zs)
  | [], [], zs, _, _ => by cases zs <;> rfl
  | [], _ :: _, [], _, h2 => absurd rfl h2
  | [], _ :: _, _ :: _, _, _ => rfl
  | _ :: _, [], _, h1, _ => absurd rfl h1
  | _ :: _, _ :: _, [], _, h2 => absurd rfl h2
  | x :: xs, y :: ys, z :: zs, h1, h2 => by
    simp only [cmpL] at h1 h2 ⊢
    have g1 : cmp3 x y ≠ .gt := fun q => by rw [q] at h1; exact h1 rfl
    have g2 : cmp3 y z ≠ .gt := fun q => by rw [q] at h2; exact h2 rfl
    rw [trans3 x y z g1 g2]
    cases q1 : cmp3 x y with
    | gt => exact absurd q1 g1
    | lt => rfl
    | eq =>
      cases q2 : cmp3 y z with
      | gt => exact absurd q2 g2
      | lt =>
        rw [q1] at h1
        cases q3 : cmpL xs ys with
        | gt => rw [q3] at h1; exact absurd rfl h1
        | lt => rfl
        | eq => rfl
      | eq =>
        rw [q1] at h1
        rw [q2] at h2
        exact transL xs ys zs h1 h2
end
mutual
theorem swap3 : ∀ (d e : PyData), cmp3 e d = (cmp3 d e).swap
  | .tuple xs, e => by
    by_cases q : rk3 (.tuple xs) = rk3 e
    · cases e <;> simp only [rk3, reduceCtorEq, Nat.reduceEqDiff] at q
      simp only [cmp3]
      exact swapL xs _
    · exact swap_rk q
  | .int i, e => by
    by_cases q : rk3 (.int i) = rk3 e
    · cases e <;> simp only [rk3, reduceCtorEq, Nat.reduceEqDiff] at q
      rename_i j
      simp only [cmp3]
      by_cases a : i < j
      · rw [if_pos a, if_neg (by omega), if_pos a]
        rfl
      · by_cases b : j < i
        · rw [if_pos b, if_neg a, if_pos b]
          rfl
        · rw [if_neg b, if_neg a, if_neg a, if_neg b]
          rfl
    · exact swap_rk q
  | .str i, e => by
    by_cases q : rk3 (.str i) = rk3 e
    · cases e <;> simp only [rk3, reduceCtorEq, Nat.reduceEqDiff] at q
      rename_i j
      simp only [cmp3]
      by_cases a : i.cps.toList < j.cps.toList
      · rw [if_pos a, if_neg (fun z => List.lt_asymm a z), if_pos a]
        rfl
      · by_cases b : j.cps.toList < i.cps.toList
        · rw [if_pos b, if_neg a, if_pos b]
          rfl
        · rw [if_neg b, if_neg a, if_neg a, if_neg b]
          rfl
    · exact swap_rk q
  | .none, e => by
    by_cases q : rk3 .none = rk3 e
    · cases e <;> simp only [rk3, reduceCtorEq, Nat.reduceEqDiff] at q
      simp [cmp3, rk3]
    · exact swap_rk q
  | .bool i, e => by
    by_cases q : rk3 (.bool i) = rk3 e
    · cases e <;> simp only [rk3, reduceCtorEq, Nat.reduceEqDiff] at q
      simp [cmp3, rk3]
    · exact swap_rk q
  | .list i, e => by
    by_cases q : rk3 (.list i) = rk3 e
    · cases e <;> simp only [rk3, reduceCtorEq, Nat.reduceEqDiff] at q
      simp [cmp3, rk3]
    · exact swap_rk q
  | .dict i, e => by
    by_cases q : rk3 (.dict i) = rk3 e
    · cases e <;> simp only [rk3, reduceCtorEq, Nat.reduceEqDiff] at q
      simp [cmp3, rk3]
    · exact swap_rk q
theorem swapL : ∀ (xs ys : List PyData), cmpL ys xs = (cmpL xs ys).swap
  | [], [] => rfl
  | [], _ :: _ => rfl
  | _ :: _, [] => rfl
  | x :: xs, y :: ys => by
    simp only [cmpL]
    rw [swap3 x y, swapL xs ys]
    cases cmp3 x y <;> rfl
end
theorem swo3 : Swo (fun d e : PyData => cmp3 d e == .lt) := by
  refine ⟨fun x y h => ?_, fun x y z h1 h2 => ?_⟩
  · have e : cmp3 x y = .lt := by simpa using h
    rw [swap3 x y, e]
    rfl
  · have a1 : cmp3 x y ≠ .gt := fun q => by
      rw [swap3 x y, q] at h1
      exact absurd h1 (by decide)
    have a2 : cmp3 y z ≠ .gt := fun q => by
      rw [swap3 y z, q] at h2
      exact absurd h2 (by decide)
    have a3 := trans3 x y z a1 a2
    rw [swap3 x z, a3]
    cases q1 : cmp3 x y with
    | gt => exact absurd q1 a1
    | lt => rfl
    | eq =>
      cases q2 : cmp3 y z with
      | gt => exact absurd q2 a2
      | lt => rfl
      | eq => rfl
mutual
def ord0 : PyData → Bool
  | .int _ => true
  | .str _ => true
  | .tuple xs => ordL xs
  | _ => false
def ordL : List PyData → Bool
  | [] => true
  | x :: xs => ord0 x && ordL xs
end
mutual
theorem eq_of_cmp : ∀ (d e : PyData), ord0 d = true → ord0 e = true → cmp3 d e = .eq → d = e
  | .tuple xs, e, h1, h2, h => by
    cases e <;> simp only [ord0, Bool.false_eq_true] at h2
    · simp [cmp3, rk3] at h
    · simp [cmp3, rk3] at h
    · simp only [cmp3] at h
      rw [eqL_of_cmp xs _ (by simpa [ord0] using h1) h2 h]
  | .int i, e, h1, h2, h => by
    cases e <;> simp only [ord0, Bool.false_eq_true] at h2
    · simp only [cmp3] at h
      rename_i j
      by_cases a : i < j
      · simp [a] at h
      · by_cases b : j < i
        · simp [a, b] at h
        · rw [show i = j by omega]
    · simp [cmp3, rk3] at h
    · simp [cmp3, rk3] at h
  | .str i, e, h1, h2, h => by
    cases e <;> simp only [ord0, Bool.false_eq_true] at h2
    · simp [cmp3, rk3] at h
    · simp only [cmp3] at h
      rename_i j
      by_cases a : i.cps.toList < j.cps.toList
      · simp [a] at h
      · by_cases b : j.cps.toList < i.cps.toList
        · simp [a, b] at h
        · rw [PySem.W.str_of_cps (List.le_antisymm (List.not_lt.mp b) (List.not_lt.mp a))]
    · simp [cmp3, rk3] at h
  | .none, _, h, _, _ => by cases h
  | .bool _, _, h, _, _ => by cases h
  | .list _, _, h, _, _ => by cases h
  | .dict _, _, h, _, _ => by cases h
theorem eqL_of_cmp : ∀ (xs ys : List PyData), ordL xs = true → ordL ys = true → cmpL xs ys = .eq → xs = ys
  | [], [], _, _, _ => rfl
  | [], _ :: _, _, _, h => by cases h
  | _ :: _, [], _, _, h => by cases h
  | x :: xs, y :: ys, h1, h2, h => by
    simp only [ordL, Bool.and_eq_true] at h1 h2
    simp only [cmpL] at h
    cases q : cmp3 x y with
    | lt => rw [q] at h; cases h
    | gt => rw [q] at h; cases h
    | eq =>
      rw [q] at h
      rw [eq_of_cmp x y h1.1 h2.1 q, eqL_of_cmp xs ys h1.2 h2.2 h]
end
theorem cmp_self (d : PyData) : cmp3 d d = .eq := by
  have h := swap3 d d
  cases q : cmp3 d d with
  | eq => rfl
  | lt => rw [q] at h; cases h
  | gt => rw [q] at h; cases h
mutual
theorem eq_of_eqv : ∀ (d e : PyData), ord0 d = true → ord0 e = true → PyData.eqv d e = true → d = e
  | .tuple xs, e, h1, h2, h => by
    cases e <;> simp only [ord0, Bool.false_eq_true] at h2
    · simp [PyData.eqv] at h
    · simp [PyData.eqv] at h
    · simp only [PyData.eqv] at h
      rw [eqL_of_eqv xs _ (by simpa [ord0] using h1) h2 h]
  | .int i, e, h1, h2, h => by
    cases e <;> simp only [ord0, Bool.false_eq_true] at h2
    · simp [PyData.eqv] at h
      rw [h]
    · simp [PyData.eqv] at h
    · simp [PyData.eqv] at h
  | .str i, e, h1, h2, h => by
    cases e <;> simp only [ord0, Bool.false_eq_true] at h2
    · simp [PyData.eqv] at h
    · simp [PyData.eqv] at h
      rw [h]
    · simp [PyData.eqv] at h
  | .none, _, h, _, _ => by cases h
  | .bool _, _, h, _, _ => by cases h
  | .list _, _, h, _, _ => by cases h
  | .dict _, _, h, _, _ => by cases h
theorem eqL_of_eqv : ∀ (xs ys : List PyData), ordL xs = true → ordL ys = true → PyData.eqvAll xs ys = true → xs = ys
  | [], [], _, _, _ => rfl
  | [], _ :: _, _, _, h => by simp [PyData.eqvAll] at h
  | _ :: _, [], _, _, h => by simp [PyData.eqvAll] at h
  | x :: xs, y :: ys, h1, h2, h => by
    simp only [ordL, Bool.and_eq_true] at h1 h2
    simp only [PyData.eqvAll, Bool.and_eq_true] at h
    rw [eq_of_eqv x y h1.1 h2.1 h.1, eqL_of_eqv xs ys h1.2 h2.2 h.2]
end
mutual
theorem eqv_self : ∀ (d : PyData), ord0 d = true → PyData.eqv d d = true
  | .tuple xs, h => by
    simp only [PyData.eqv]
    exact eqvL_self xs h
  | .int i, _ => by simp [PyData.eqv]
  | .str i, _ => by simp [PyData.eqv]
  | .none, h => by cases h
  | .bool _, h => by cases h
  | .list _, h => by cases h
  | .dict _, h => by cases h
theorem eqvL_self : ∀ (xs : List PyData), ordL xs = true → PyData.eqvAll xs xs = true
  | [], _ => rfl
  | x :: xs, h => by
    simp only [ordL, Bool.and_eq_true] at h
    simp only [PyData.eqvAll, eqv_self x h.1, eqvL_self xs h.2, Bool.and_self]
end
mutual
theorem cmp_of_ltB : ∀ (d e : PyData) (b : Bool), ord0 d = true → ord0 e = true → ltB d e = some b → b = (cmp3 d e == .lt)
  | .tuple xs, e, b, h1, h2, h => by
    cases e <;> simp only [ord0, Bool.false_eq_true] at h2
    · simp [ltB] at h
    · simp [ltB] at h
    · simp only [ltB] at h
      simp only [cmp3]
      exact cmp_of_ltA xs _ b h1 h2 h
  | .int i, e, b, h1, h2, h => by
    cases e <;> simp only [ord0, Bool.false_eq_true] at h2
    · simp only [ltB, Option.some.injEq] at h
      rename_i j
      rw [← h]
      simp only [cmp3]
      by_cases a : i < j
      · simp [a]
      · by_cases c : j < i <;> simp [a, c]
    · simp [ltB] at h
    · simp [ltB] at h
  | .str i, e, b, h1, h2, h => by
    cases e <;> simp only [ord0, Bool.false_eq_true] at h2
    · simp [ltB] at h
    · simp only [ltB, Option.some.injEq] at h
      rename_i j
      rw [← h]
      simp only [cmp3]
      by_cases a : i.cps.toList < j.cps.toList
      · simp [a]
      · by_cases c : j.cps.toList < i.cps.toList <;> simp [a, c]
    · simp [ltB] at h
  | .none, _, _, h, _, _ => by cases h
  | .bool _, _, _, h, _, _ => by cases h
  | .list _, _, _, h, _, _ => by cases h
  | .dict _, _, _, h, _, _ => by cases h
theorem cmp_of_ltA : ∀ (xs ys : List PyData) (b : Bool), ordL xs = true → ordL ys = true → ltA xs ys = some b → b = (cmpL xs ys == .lt)
  | [], [], b, _, _, h => by
    simp only [ltA, Option.some.injEq] at h
    rw [← h]
    rfl
  | [], _ :: _, b, _, _, h => by
    simp only [ltA, Option.some.injEq] at h
    rw [← h]
    rfl
  | _ :: _, [], b, _, _, h => by
    simp only [ltA, Option.some.injEq] at h
    rw [← h]
    rfl
  | x :: xs, y :: ys, b, h1, h2, h => by
    simp only [ordL, Bool.and_eq_true] at h1 h2
    simp only [cmpL]
    rw [ltA] at h
    by_cases q : PyData.eqv x y = true
    · rw [if_pos q] at h
      have e := eq_of_eqv x y h1.1 h2.1 q
      subst e
      rw [cmp_self]
      exact cmp_of_ltA xs ys b h1.2 h2.2 h
    · rw [if_neg q] at h
      have e := cmp_of_ltB x y b h1.1 h2.1 h
      cases c : cmp3 x y with
      | lt => rw [c] at e; exact e
      | gt => rw [c] at e; exact e
      | eq =>
        have := eq_of_cmp x y h1.1 h2.1 c
        subst this
        exact absurd (eqv_self x h1.1) q
end
/-- sorted by cmp3 -/
def leD3 (d e : PyData) : Bool := !(cmp3 e d == .lt)
theorem sort_one {ds out : List PyData} (h0 : ∀ d ∈ ds, ord0 d = true) (hp : out.Perm ds) (hs : out.Pairwise fun x y => (cmp3 y x == .lt) = false) : out = ds.mergeSort leD3 := by
  have O := swo3
  refine List.Perm.eq_of_pairwise (le := fun x y => leD3 x y = true) (fun a b ha hb h1 h2 => ?_) (hs.imp fun h => by simp [leD3, h]) (List.pairwise_mergeSort (fun a b c h1 h2 => ?_) (fun a b => ?_) ds) (hp.trans (List.mergeSort_perm ds leD3).symm)
  · have a0 := h0 a (hp.mem_iff.mp ha)
    have b0 := h0 b ((List.mergeSort_perm ds leD3).mem_iff.mp hb)
    refine eq_of_cmp a b a0 b0 ?_
    cases c : cmp3 a b with
    | eq => rfl
    | lt => simp [leD3, c] at h2
    | gt =>
      have := swap3 a b
      rw [c] at this
      simp [leD3, this] at h1
  · simp only [leD3, Bool.not_eq_true'] at h1 h2 ⊢
    exact O.tr a b c h1 h2
  · unfold leD3
    cases c : (cmp3 b a == .lt) with
    | false => rfl
    | true =>
      rw [O.asym b a c]
      rfl
end DnSo
set_option maxHeartbeats 2000000
namespace DnSo
open PySem PySem.SeqAt PyProof.Rows PySem.W SrtO DnLt
noncomputable def kOf (h : Heap) (v : Value) : PyData := by
  classical
  exact if q : ∃ d as, Reads h v d as then Classical.choose q else .none
theorem kOf_eq {h : Heap} {v : Value} {d : PyData} {as : List Addr} (r : Reads h v d as) : kOf h v = d := by
  unfold kOf
  have q : ∃ d as, Reads h v d as := ⟨d, as, r⟩
  rw [dif_pos q]
  obtain ⟨bs, r2⟩ := Classical.choose_spec q
  exact (Reads.unique r2 _ _ r).1
def isI : PyData → Bool
  | .int _ => true
  | _ => false
def isT : PyData → Bool
  | .tuple _ => true
  | _ => false
/-- a tuple whose first item is such -/
def fst1 (p : PyData → Bool) : PyData → Bool
  | .tuple (x :: _) => p x
  | _ => false
def sortOk (ds : List PyData) : Bool := decide (ds.length ≤ 16777216) && ds.all (fun d => ord0 d && d.canLay0 && decide (d.depth ≤ 8)) && ds.all (fun d => ds.all fun e => (ltB d e).isSome) && (ds.all (fst1 isI) || ds.all (fst1 isT) || ds.all isI)
section
variable {prog : Program} {w : World} {A : Around} {E : Value → Shared → Prop} {s : Shared}
noncomputable def ltK (h : Heap) (v u : Value) : Bool := cmp3 (kOf h v) (kOf h u) == .lt
theorem swoK (h : Heap) : Swo (ltK h) := ⟨fun x y => swo3.asym _ _, fun x y z => swo3.tr _ _ _⟩
end
end DnSo
namespace Dn
open PySem PySem.Spec PyProof.Rows L2 DnSo
inductive Tri (K : Kx) (F : Hp) : List V → List Value → List D → Prop
  | nil : Tri K F [] [] []
  | cons {x : V} {u : Value} {d : D} {xs : List V} {us : List Value} {ds : List D} (h1 : RelV x u) (h2 : Rp K F x d) (h3 : Tri K F xs us ds) : Tri K F (x :: xs) (u :: us) (d :: ds)
theorem Tri.vals {K : Kx} {F : Hp} {xs : List V} {us : List Value} {ds : List D} (t : Tri K F xs us ds) : Vals xs us := by
  induction t with
  | nil => exact .nil
  | cons a b c ih => exact .cons a ih
theorem Tri.all {K : Kx} {F : Hp} {xs : List V} {us : List Value} {ds : List D} (t : Tri K F xs us ds) : RpAll K F xs ds := by
  induction t with
  | nil => exact .nil
  | cons a b c ih => exact .cons b ih
theorem Tri.perm {K : Kx} {F : Hp} {us' us : List Value} (p : us.Perm us') : ∀ {xs : List V} {ds : List D}, Tri K F xs us ds → ∃ xs' ds', Tri K F xs' us' ds' ∧ ds'.Perm ds := by
  induction p with
  | nil => exact fun t => ⟨_, _, t, .refl _⟩
  | cons u p ih =>
    intro xs ds t
    cases t with
    | cons a b c =>
      obtain ⟨xs', ds', t', q⟩ := ih c
      exact ⟨_, _, .cons a b t', q.cons _⟩
  | swap u v l =>
    intro xs ds t
    cases t with
    | cons a b c =>
      cases c with
      | cons a' b' c' => exact ⟨_, _, .cons a' b' (.cons a b c'), .swap _ _ _⟩
  | trans p q ih1 ih2 =>
    intro xs ds t
    obtain ⟨xs', ds', t', q'⟩ := ih1 t
    obtain ⟨xs2, ds2, t2, q2⟩ := ih2 t'
    exact ⟨_, _, t2, q2.trans q'⟩
theorem Tri.mem {K : Kx} {F : Hp} {xs : List V} {us : List Value} {ds : List D} (t : Tri K F xs us ds) : ∀ u ∈ us, ∃ x d, d ∈ ds ∧ RelV x u ∧ Rp K F x d := by
  induction t with
  | nil => simp
  | cons a b c ih =>
    intro u hu
    rcases List.mem_cons.mp hu with e | e
    · subst e
      exact ⟨_, _, List.mem_cons_self, a, b⟩
    · obtain ⟨x, d, h1, h2⟩ := ih u e
      exact ⟨x, d, List.mem_cons_of_mem _ h1, h2⟩
theorem Tri.map {K : Kx} {F : Hp} {k : Value → D} {xs : List V} {us : List Value} {ds : List D} (t : Tri K F xs us ds) : (∀ x u d, d ∈ ds → RelV x u → Rp K F x d → k u = d) → us.map k = ds := by
  induction t with
  | nil => exact fun _ => rfl
  | cons a b c ih =>
    intro h
    rw [List.map_cons, h _ _ _ List.mem_cons_self a b, ih fun x u d hd => h x u d (List.mem_cons_of_mem _ hd)]
def sortF : List D → Option D
  | [.list xs] => if sortOk xs = true then some (.list (xs.mergeSort leD3)) else none
  | _ => none
end Dn
set_option maxHeartbeats 2000000
namespace Dn
open PySem PySem.Spec PyProof.Rows L2
def reprOk (d : D) : Bool := d.canLay0 && decide (d.depth ≤ 8) && PyData.showable d && PyData.leavesShort 13 d && decide (d.weight ≤ 2 ^ 20)
def reprF : List D → Option D
  | [.list xs] => if reprOk (.list xs) = true then some (.str (PyData.list xs).shown) else none
  | [.tuple xs] => if reprOk (.tuple xs) = true then some (.str (PyData.tuple xs).shown) else none
  | _ => none
section
variable {X : Cx}
theorem bb_repr : bootBuiltins "repr" = some (.builtin "repr") := by decide +kernel
theorem bb_sorted : bootBuiltins "sorted" = some (.builtin "sorted") := by decide +kernel
end
section
variable {P : Program} {w : World} {K : PySem.W.Frag} {mg mb : Str → Option Value}
/-- the script as the layer sees it -/
theorem script_st {s₁ : Shared} {a : Addr} {vs : List Value} {ns : List Int} (KX : K.In s₁.heap) (ha : s₁.heap.get? a = some { cls := .type "list", data := .seq vs.toArray }) (hi : IntsAre vs ns) (hl : ns.length ≤ sizeLine) :
    ∃ H : Hp, Only H ∧ SqL K H a (ns.map V.int) ∧ HOk P w H s₁.heap ∧ (∀ b, H b ≠ none → b = a) ∧ (H a ≠ none → K.lookup a = none) := by
  have rv := vals_ints hi
  have lenV := hi.length
  by_cases hk : K.lookup a = none
  · have ev : ∀ {b : Addr} {u : HO}, (if b = a then some (HO.frz { cls := .type "list", data := .seq vs.toArray } (.lst (ns.map V.int))) else none) = some u → b = a ∧ u = .frz { cls := .type "list", data := .seq vs.toArray } (.lst (ns.map V.int)) := fun {b u} h => by
      by_cases z : b = a
      · rw [if_pos z] at h
        exact ⟨z, (Option.some.inj h).symm⟩
      · rw [if_neg z] at h
        cases h
    refine ⟨fun b => if b = a then some (.frz { cls := .type "list", data := .seq vs.toArray } (.lst (ns.map V.int))) else none, fun b => ?_, .inl (.inr ⟨_, if_pos rfl⟩), fun b u z => ?_, fun b z => ?_, fun _ => hk⟩
    · by_cases z : b = a
      · exact .inr ⟨_, _, if_pos z⟩
      · exact .inl (if_neg z)
    · obtain ⟨rfl, rfl⟩ := ev z
      exact ⟨ha, by rw [List.length_map]; exact hl, vs, _, rv, ha⟩
    · by_cases y : b = a
      · exact y
      · exact absurd (if_neg y) z
  · obtain ⟨o, hk⟩ := Option.ne_none_iff_exists'.mp hk
    have e := KX a o hk
    rw [ha] at e
    cases e
    exact ⟨fun _ => none, fun _ => .inl rfl, .inr ⟨_, vs.toArray, _, hk, rfl, rfl, rfl, by rw [List.size_toArray, lenV]; exact hl, by simpa using rv⟩, fun b u z => (by cases z), fun b z => absurd rfl z, fun z => absurd rfl z⟩
end
end Dn
set_option maxHeartbeats 2000000
namespace Dn
open PySem PySem.Spec PyProof.Rows L2 RT
section
variable {X : Cx} {tg e a b : Expr} {pos p py : Pos} {x y : Str}
/-- an operation on a list of one's own and a datum: what comes of it is no reference -/
def gOpBL (f : D → D → Option D) (i : Nat) (g : Md D) : Md D := fun ρ => (peek ρ i).bind fun _ => (g ρ).bind fun p => (peek p.2 i).bind fun d => (f d p.1).bind fun r => if flatD r = true then some (r, p.2) else none
theorem opBL_q {f : D → D → Option D} {i : Nat} {g : Md D} {σ : L2.St} {H : Hp} {Q : VK} (q : tD (cxK X) (gOpBL f i g) σ H Q) : tOp (rP2 (cxK X) f) (tVar i) (tD (cxK X) g) σ H Q := by
  obtain ⟨F, ρ, r, ρ', s, eg, k⟩ := q
  obtain ⟨d0, e0, eg⟩ := bind_some eg
  obtain ⟨⟨c, ρ1⟩, e1, eg⟩ := bind_some eg
  obtain ⟨d, e2, eg⟩ := bind_some eg
  obtain ⟨r', e3, eg⟩ := bind_some eg
  simp only at e2 e3 eg
  split at eg
  · rename_i fl
    cases eg
    obtain ⟨v, ev, _⟩ := peek_dp s e0
    refine ⟨v, ev, F, ρ, c, _, s, e1, fun w F1 H1 p1 s1 r1 => ?_⟩
    obtain ⟨v', ev', rv⟩ := peek_dp s1 e2
    rw [ev] at ev'
    cases ev'
    refine ⟨H1, d, c, r, Same.refl _, rv, dp_mono s1.sub _ _ r1, e3, fun u F2 H2 gr r2 => ?_⟩
    have gr' : Grow F1 H1 F1 H2 := ⟨Same.refl _, gr.hh, s1.sub.trans gr.hh, fun _ _ _ => rfl⟩
    exact k u F1 H2 (p1.trans (gr'.stp _ _)) (s1.grow gr') (flat_dp r2 fl)
  · cases eg
theorem db_cmpL {op : CmpOp} {f : D → D → Option D} (i : Nat) {g : Md D} (ho : OpR X (compareOp op) (rP2 (cxK X) f)) (hb : DE X b g) (hm : behindInMarks op b = false) (hN : X.N[i]? = some y := by rfl) (hy : Vis X.env.scope y := by first | exact Or.inl rfl | exact Or.inr (Or.inl rfl) | exact Or.inr (Or.inr rfl))
    (hdy : (y == ("__debug__" : Str)) = false := by decide) (hcd : (y == ("__classdict__" : Str)) = false := by decide) : DE X (.Compare (.Name y py) [op] [b] pos) (gOpBL f i g) :=
  pe_imp (pe_cmpR ho (pe_var hN hy hdy hcd) hb hm) fun _ _ _ q => opBL_q q
def revOf (d : D) : Option (List D) := match d with
  | .list xs => some xs.reverse
  | .tuple xs => some xs.reverse
  | _ => none
def gReve (g : Md D) : Md (List D) := fun ρ => (g ρ).bind fun p => (revOf p.1).bind fun ds => some (ds, p.2)
def numsOf : List D → Option (List Int)
  | [] => some []
  | .int i :: r => (numsOf r).bind fun ns => some (i :: ns)
  | _ => none
def sumF : List D → Option D
  | [.list xs] => (numsOf xs).bind fun ns => some (.int ns.sum)
  | _ => none
end
end Dn
set_option maxHeartbeats 2000000
namespace Dn
open PySem PySem.Spec PyProof.Rows L2
section
variable {X : Cx} {pos : Pos}
/-- {} -/
def gNewD : Md D := fun ρ => some (.dict [], ρ)
def putD (es : List (D × D)) (dk dv : D) : List (D × D) := if es.any (fun p => decide (nkD p.1 = nkD dk)) = true then es.map (fun p => if nkD p.1 = nkD dk then (p.1, dv) else p) else es ++ [(dk, dv)]
def keyTup : D → Bool
  | .tuple _ => true
  | _ => false
def sSetK (i : Nat) (gv gk : Md D) : Sd := fun ρ => (gv ρ).bind fun p => match p.2[i]? with
  | some (some (.own _ _)) => (gk p.2).bind fun q => match q.2[i]? with
    | some (some (.own b (.dict es))) => if keyTup q.1 = true ∧ (nkD q.1).isSome = true ∧ es.length < 16777216 then some (.nx, q.2.set i (some (.own b (.dict (putD es q.1 p.1))))) else none
    | _ => none
  | _ => none
def atD (es : List (D × D)) (dk : D) : Option D := (es.find? fun p => decide (nkD p.1 = nkD dk)).map (·.2)
def gGet (i : Nat) (gk gx : Md D) : Md D := fun ρ => match ρ[i]? with
  | some (some (.own _ (.dict _))) => (gk ρ).bind fun p => (gx p.2).bind fun q => match q.2[i]? with
    | some (some (.own _ (.dict es))) => if keyTup p.1 = true ∧ (nkD p.1).isSome = true then some ((atD es p.1).getD q.1, q.2) else none
    | _ => none
  | _ => none
def gIxK (i : Nat) (gk : Md D) : Md D := fun ρ => match ρ[i]? with
  | some (some (.own _ (.dict _))) => (gk ρ).bind fun p => match p.2[i]? with
    | some (some (.own _ (.dict es))) => if keyTup p.1 = true ∧ (nkD p.1).isSome = true then (atD es p.1).bind fun r => some (r, p.2) else none
    | _ => none
  | _ => none
end
end Dn
set_option maxHeartbeats 2000000
namespace Dn
open PySem PySem.Spec PyProof.Rows L2 DnSo
section
variable {X : Cx} {pos p : Pos} {x y : Str} {py : Pos}
/-- collect of what is walked: the heap only grows -/
theorem coll_src {P : Program} {w : World} {B : Around} {G : Value → Shared → Prop} {s : Shared} {T : String} {r d : Addr} {n : Nat} {Z : Nat → Value → Prop} {OK : Heap → Prop} {R : List Value → Shared → Prop}
    (S : PySem.W.KdlSrc P w T r d n Z OK) (hB : B.handled = none) (ok : OK s.heap) (hn : n ≤ sizeLine)
    (k : ∀ (g : Heap) (tk : Nat) (ac : Array Value), s.heap.objs.size ≤ g.objs.size → (∀ c u, s.heap.get? c = some u → g.get? c = some u) → ItemsOf Z ac n → R ac.toList { s with heap := g, toks := tk }) :
    wpAny (model P w) B (collect (.ref r)) R G s := by
  obtain ⟨l1, l2⟩ := S.there _ ok
  unfold collect
  refine wpAny_bind (wpAny_runValue
    (codeAny_builtin entry_proto_collect' ?_))
  rw [Around.under_plainId PySem.F.plain_proto_collect _]
  show wpAny _ B.in1
    (newList [] >>= fun z => again (.builtin "list.__iadd__" ⟨[z, .ref r], []⟩)) _ _ s
  refine wpAny_bind
    (wpAny_newObj_type ?_)
  refine wpAny_pure
    ⟨plainId_quiet PySem.F.plain_list_iadd _, codeAny_builtin entry_list_iadd' ?_⟩
  rw [Around.under_plainId PySem.F.plain_list_iadd _]
  have hnew : (s.heap.push { cls := .type "list", data := .seq ([] : List Value).toArray }).get? s.heap.objs.size = some { cls := .type "list", data := .seq #[] } := Heap.get?_push_size _ rfl
  show wpAny _ B.in1
    (Builtin.List.listExtendWith (.ref s.heap.objs.size) (.ref r) (.ref s.heap.objs.size)) _ _ _
  have main := PySem.W.kdl_extend (A := B) (s := { s with heap := s.heap.push { cls := .type "list", data := .seq ([] : List Value).toArray } })
    (R := fun (q : Result) (z : Shared) => ∃ (g : Heap) (tk : Nat) (ac : Array Value) (c : Nat), q = .ok (.ret (.ref s.heap.objs.size)) ∧ z = { s with heap := g, toks := tk } ∧
      (∀ b o, s.heap.get? b = some o → g.get? b = some o) ∧ g.get? s.heap.objs.size = some { cls := .type "list", dict := none, data := .seq ac c, slots := #[] } ∧ ItemsOf Z ac n)
    S hB (S.keep _ _ ok fun b _ o e => Heap.get?_push_of_some _ e) s.heap.objs.size (Nat.ne_of_gt l1) (Nat.ne_of_gt l2) (.ref s.heap.objs.size) 0 hnew
    (fun g tk ac c q1 q2 q3 => ⟨g, tk, ac, c, rfl, rfl, fun b o e => q1 b o (Nat.ne_of_lt (Heap.lt_size e)) (Heap.get?_push_of_some _ e), q2, q3⟩) hn
  refine wpAny_mono main (fun fin z x => ?_) fun e z x => ?_
  · cases fin with
    | done f =>
      obtain ⟨g, tk, ac, c, e, rfl, q1, q2, q3⟩ := x
      cases e
      show wpAny _ B
        (load s.heap.objs.size >>= _) _ _ _
      exact wpAny_bind (wpAny_load q2 (wpAny_pure (k g tk ac (Nat.le_of_lt (Heap.lt_size q2)) q1 q3)))
    | again c₁ =>
      refine ⟨x.1, codeAny_mono x.2 fun q z2 y => ?_⟩
      obtain ⟨g, tk, ac, c, rfl, rfl, q1, q2, q3⟩ := y
      show wpAny _ B
        (load s.heap.objs.size >>= _) _ _ _
      exact wpAny_bind (wpAny_load q2 (wpAny_pure (k g tk ac (Nat.le_of_lt (Heap.lt_size q2)) q1 q3)))
  · obtain ⟨_, _, _, _, e', _⟩ := x
    cases e'
def gSortN (i : Nat) : Md D := fun ρ => match ρ[i]? with
  | some (some (.own _ (.dict es))) => if sortOk (es.map (·.1)) = true then some (.list ((es.map (·.1)).mergeSort leD3), ρ) else none
  | _ => none
def lsD : D → Option (List D)
  | .list ds => some ds
  | _ => none
def sExt (i : Nat) (g : Md D) : Sd := fun ρ => match ρ[i]? with
  | some (some (.own _ (.list _))) => (g ρ).bind fun p => match p.2[i]? with
    | some (some (.own b (.list ds))) => (lsD p.1).bind fun es => if ds.length + es.length ≤ 16777216 then some (.nx, p.2.set i (some (.own b (.list (ds ++ es))))) else none
    | _ => none
  | _ => none
end
end Dn
set_option maxHeartbeats 2000000
namespace Dn
open PySem PySem.Spec PyProof.Rows L2 DnSo
/-- an item behind the list at its key -/
def appG : List (D × D) → D → D → List (D × D)
  | [], k, x => [(k, .list [x])]
  | (k', d) :: es, k, x => if nkD k' = nkD k then (k', match d with | .list ds => .list (ds ++ [x]) | d => d) :: es else (k', d) :: appG es k x
def lenG : List (D × D) → D → Nat
  | [], _ => 0
  | (k', d) :: es, k => if nkD k' = nkD k then (match d with | .list ds => ds.length | _ => 0) else lenG es k
inductive RpG (K : Kx) (F H : Hp) : List (NestedKey × Addr × V) → List (D × D) → List Addr → Prop
  | nil : RpG K F H [] [] []
  | cons {k : NestedKey} {ka la : Addr} {dk : D} {vs : List V} {ds : List D} {xs : List (NestedKey × Addr × V)} {es : List (D × D)} {las : List Addr} (hk : nkD dk = some k) (h1 : Rp K F (.ref ka) dk) (hf : F la = none) (hh : H la = some (.lst vs)) (h2 : RpAll K F vs ds) (hn : la ∉ las) (t : RpG K F H xs es las) : RpG K F H ((k, ka, .ref la) :: xs) ((dk, .list ds) :: es) (la :: las)
theorem RpG.mono {K : Kx} {F F' H H' : Hp} (f : Same F F') : ∀ {xs es las}, RpG K F H xs es las → (∀ b ∈ las, F' b = F b ∧ H' b = H b) → RpG K F' H' xs es las
  | _, _, _, .nil, _ => .nil
  | _, _, _, .cons (la := la) hk h1 hf hh h2 hn t, h => by
    obtain ⟨e1, e2⟩ := h la List.mem_cons_self
    exact .cons hk (dp_mono f _ _ h1) (e1.trans hf) (e2.trans hh) (dpAll_mono f _ _ h2) hn (t.mono f fun b hb => h b (List.mem_cons_of_mem _ hb))
theorem RpG.len {K : Kx} {F H : Hp} : ∀ {xs es las}, RpG K F H xs es las → xs.length = es.length
  | _, _, _, .nil => rfl
  | _, _, _, .cons _ _ _ _ _ _ t => congrArg (· + 1) t.len
theorem RpG.free {K : Kx} {F H : Hp} : ∀ {xs es las}, RpG K F H xs es las → ∀ b ∈ las, F b = none ∧ ∃ vs, H b = some (.lst vs)
  | _, _, _, .nil, b, hb => by cases hb
  | _, _, _, .cons _ _ hf hh _ _ t, b, hb => by
    rcases List.mem_cons.mp hb with rfl | hb
    · exact ⟨hf, _, hh⟩
    · exact t.free b hb
open Classical in
/-- what stands for good, and the lists -/
noncomputable def ext (F H : Hp) (las : List Addr) : Hp := fun b => if b ∈ las then H b else F b
/-- the groups, beside the state -/
structure Gh (K : Kx) (F H : Hp) (σ : L2.St) (ρ : Env) (H0 : Hp) (i : Nat) (a : Addr) (xs : List (NestedKey × Addr × V)) (es : List (D × D)) (las : List Addr) : Prop where
  slot : σ[i]? = some (some (.ref a))
  fa : F a = none
  ha : H a = some (dicO K a xs)
  rg : RpG K F H xs es las
  na : a ∉ las
  own : ∀ b ∈ las, ¬ Owns σ ρ b ∧ H0 b = none
  no : ¬ Owns σ ρ a
theorem Gh.step {K : Kx} {F H F' H' : Hp} {σ σ' : L2.St} {ρ ρ' : Env} {H0 : Hp} {i : Nat} {a : Addr} {xs es las} (g : Gh K F H σ ρ H0 i a xs es las) (p : Stp F σ ρ H F' σ' ρ' H') (e : σ'[i]? = σ[i]?) : Gh K F' H' σ' ρ' H0 i a xs es las := by
  have kp : ∀ b ∈ las, F' b = F b ∧ H' b = H b := fun b hb => by
    obtain ⟨vs, hv⟩ := (g.rg.free b hb).2
    obtain ⟨k1, k2⟩ := p.keep b _ hv (g.own b hb).1
    exact ⟨k2, k1.trans hv.symm⟩
  have fr : ∀ b, (∃ o, H b = some o) → ¬ Owns σ ρ b → ¬ Owns σ' ρ' b := fun b ho hn z => by
    rcases p.fresh b z with q | q
    · exact hn q
    · obtain ⟨o, ho⟩ := ho
      rw [q] at ho
      cases ho
  obtain ⟨k1, k2⟩ := p.keep a _ g.ha g.no
  exact ⟨e.trans g.slot, k2.trans g.fa, k1, g.rg.mono p.ff kp, g.na, fun b hb => ⟨fr b (let ⟨vs, hv⟩ := (g.rg.free b hb).2; ⟨_, hv⟩) (g.own b hb).1, (g.own b hb).2⟩, fr a ⟨_, g.ha⟩ g.no⟩
/-- what is changed was one's own at the start, or is new since -/
theorem stp_poke {F0 F : Hp} {σ0 σ : L2.St} {ρ0 ρ : Env} {H0 H : Hp} (p : Stp F0 σ0 ρ0 H0 F σ ρ H) {b : Addr} {o : HO} (hb : H0 b = none ∨ Owns σ0 ρ0 b) : Stp F0 σ0 ρ0 H0 F σ ρ (upd H b o) := by
  refine ⟨p.ff, fun c u h n => ?_, p.fresh, p.fix, fun c u h => ?_⟩
  · have z : c ≠ b := fun z => by
      subst z
      rcases hb with q | q
      · rw [q] at h; cases h
      · exact n q
    rw [upd_ne z]
    exact p.keep c u h n
  · obtain ⟨o', ho⟩ := p.dom c u h
    by_cases z : c = b
    · subst z
      exact ⟨o, upd_same⟩
    · exact ⟨o', by rw [upd_ne z]; exact ho⟩
theorem stp_ice {F0 F F' : Hp} {σ0 σ : L2.St} {ρ0 ρ : Env} {H0 H : Hp} (p : Stp F0 σ0 ρ0 H0 F σ ρ H) (f : Same F F') (h : ∀ b, F' b ≠ F b → H0 b = none ∨ Owns σ0 ρ0 b) : Stp F0 σ0 ρ0 H0 F' σ ρ H := by
  refine ⟨p.ff.trans f, fun c u hc n => ?_, p.fresh, p.fix, p.dom⟩
  obtain ⟨k1, k2⟩ := p.keep c u hc n
  refine ⟨k1, ?_⟩
  by_cases z : F' c = F c
  · exact z.trans k2
  · rcases h c z with q | q
    · rw [q] at hc; cases hc
    · exact absurd q n
section
variable {X : Cx} {pos : Pos}
/-- the loop on data -/
def grpD (gt : D → Env → Option Env) (p : Nat) (g0 gk gx : Md D) : List D → List (D × D) → Env → Option (List (D × D) × Env)
  | [], es, ρ => some (es, ρ)
  | d :: ds, es, ρ => (gt d ρ).bind fun ρ1 => (g0 ρ1).bind fun q0 => (setC p (.val q0.1) q0.2).bind fun ρ2 => (gk ρ2).bind fun q1 => (gx q1.2).bind fun q2 =>
      if keyTup q1.1 = true ∧ (nkD q1.1).isSome = true ∧ es.length < 16777216 ∧ lenG es q1.1 < 16777216 then grpD gt p g0 gk gx ds (appG es q1.1 q2.1) q2.2 else none
def emptyOwn : Option (Option Cell) → Bool
  | some (some (.own false (.dict []))) => true
  | _ => false
def sGrp (i : Nat) (gi : Md (List D)) (gt : D → Env → Option Env) (p : Nat) (g0 gk gx : Md D) : Sd := fun ρ => (gi ρ).bind fun q => if emptyOwn q.2[i]? = true then
    (grpD gt p g0 gk gx q.1 [] (q.2.set i none)).bind fun r => (setC i (.val (.dict r.1)) r.2).bind fun ρ' => some (.nx, ρ') else none
end
end Dn
set_option maxHeartbeats 2000000
namespace Dn
open PySem PySem.Spec PyProof.Rows L2 DnSo
def keysTup (es : List (D × D)) : Bool := es.all fun p => keyTup p.1
section
variable {X : Cx} {pos : Pos}
def getG : D → D → D → Option D
  | .dict es, k, x => if keysTup es = true ∧ keyTup k = true ∧ (nkD k).isSome = true then some ((atD es k).getD x) else none
  | _, _, _ => none
def gGetD (go gk gx : Md D) : Md D := fun ρ => (go ρ).bind fun p => (gk p.2).bind fun q => (gx q.2).bind fun r => (getG p.1 q.1 r.1).bind fun z => some (z, r.2)
/-- l.index(x) -/
def ixOf (d : D) : List D → Nat → Option Nat
  | [], _ => none
  | x :: xs, i => if PyData.eqv x d = true then some i else ixOf d xs (i + 1)
def indF : D → D → Option D
  | .list xs, d => if SeqAt.shaped (.list xs) = true ∧ SeqAt.shaped d = true then (ixOf d xs 0).bind fun j => some (.int (j : Nat)) else none
  | _, _ => none
def gInd (go gx : Md D) : Md D := fun ρ => (go ρ).bind fun p => (gx p.2).bind fun q => (indF p.1 q.1).bind fun z => some (z, q.2)
end
end Dn
set_option maxHeartbeats 2000000
namespace Dn
open PySem PySem.Spec PyProof.Rows L2 DnSo
def lOwnD : Option (Option Cell) → Option (List D)
  | some (some (.own _ (.list ds))) => some ds
  | _ => none
def lcW (i0 : Nat) (vs : List Nat) (gt : D → Env → Option Env) (gc : Md Bool) (ge : Md D) : Nat → Nat → Env → Option (List D × Env)
  | 0, j, ρ => (lOwnD ρ[i0]?).bind fun ds => if ds.length ≤ j then some ([], ρ) else none
  | n + 1, j, ρ => (lOwnD ρ[i0]?).bind fun ds => match ds[j]? with
    | none => some ([], ρ)
    | some d => (gt d ρ).bind fun ρ1 => (gc ρ1).bind fun p => if p.1 = true then (ge p.2).bind fun q => (lcW i0 vs gt gc ge n (j + 1) (wipeE q.2 vs)).bind fun r => some (q.1 :: r.1, r.2) else lcW i0 vs gt gc ge n (j + 1) (wipeE p.2 vs)
def gLcW (i0 : Nat) (vs : List Nat) (gt : D → Env → Option Env) (gc : Md Bool) (ge : Md D) : Md D := fun ρ => (lOwnD ρ[i0]?).bind fun ds => if ds.length ≤ 16777216 ∧ vs.all (notOwn ρ) = true ∧ i0 ∉ vs then
  (lcW i0 vs gt gc ge ds.length 0 (wipeE ρ vs)).bind fun r => some (.list r.1, backE ρ vs r.2) else none
end Dn
set_option maxHeartbeats 2000000
namespace Dn
open PySem PySem.Spec PyProof.Rows L2 DnSo
def three : List D → Option (D × D × D)
  | [a, b, c] => some (a, b, c)
  | _ => none
def sPar3 (i j l : Nat) (gs : Md (List D)) : Sd := fun ρ => (gs ρ).bind fun p => (three p.1).bind fun t => (setC i (.val t.1) p.2).bind fun ρ1 => (setC j (.val t.2.1) ρ1).bind fun ρ2 => (setC l (.val t.2.2) ρ2).bind fun ρ3 => some (.nx, ρ3)
end Dn
set_option maxHeartbeats 2000000
namespace Dn
open PySem PySem.Spec PyProof.Rows L2 DnSo
def addL2 : D → D → Option D
  | .list xs, .list ys => if xs.length + ys.length ≤ 16777216 then some (.list (xs ++ ys)) else none
  | _, _ => none
end Dn
set_option maxHeartbeats 2000000
namespace Dn
open PySem PySem.Spec PyProof.Rows L2 DnSo
abbrev Gp := D × List D
def gpD (e : Gp) : D := .list [e.1, .list e.2]
def putG : List Gp → List Bool → D → List Gp
  | e :: es, b :: bs, x => if b = true then (e.1, e.2 ++ [x]) :: es else e :: putG es bs x
  | es, _, _ => es
def lenB : List Gp → List Bool → Nat
  | e :: es, b :: bs => if b = true then e.2.length else lenB es bs
  | _, _ => 0
def selG : List Gp → List Bool → List D
  | e :: es, b :: bs => if b = true then gpD e :: selG es bs else selG es bs
  | _, _ => []
def adrs : List (Addr × Addr) → List Addr
  | [] => []
  | g :: gs => g.1 :: g.2 :: adrs gs
inductive RpL (K : Kx) (F H : Hp) : List (Addr × Addr) → List Gp → Prop
  | nil : RpL K F H [] []
  | cons {g r : Addr} {kv : V} {vs : List V} {dk : D} {ds : List D} {gs : List (Addr × Addr)} {es : List Gp} (fg : F g = none) (fr : F r = none) (hg : H g = some (.lst [kv, .ref r])) (hr : H r = some (.lst vs)) (rk : Rp K F kv dk) (rv : RpAll K F vs ds) (n1 : g ≠ r) (n2 : g ∉ adrs gs) (n3 : r ∉ adrs gs) (t : RpL K F H gs es) : RpL K F H ((g, r) :: gs) ((dk, ds) :: es)
theorem adrs_in1 {g r : Addr} {gs : List (Addr × Addr)} : g ∈ adrs ((g, r) :: gs) := List.mem_cons_self
theorem adrs_in2 {g r : Addr} {gs : List (Addr × Addr)} : r ∈ adrs ((g, r) :: gs) := List.mem_cons_of_mem _ List.mem_cons_self
theorem adrs_in3 {b g r : Addr} {gs : List (Addr × Addr)} (h : b ∈ adrs gs) : b ∈ adrs ((g, r) :: gs) := List.mem_cons_of_mem _ (List.mem_cons_of_mem _ h)
theorem RpL.mono {K : Kx} {F F' H H' : Hp} (f : Same F F') : ∀ {gs es}, RpL K F H gs es → (∀ b ∈ adrs gs, F' b = F b ∧ H' b = H b) → RpL K F' H' gs es
  | _, _, .nil, _ => .nil
  | _, _, .cons fg fr hg hr rk rv n1 n2 n3 t, h => by
    obtain ⟨e1, e2⟩ := h _ adrs_in1
    obtain ⟨e3, e4⟩ := h _ adrs_in2
    exact .cons (e1.trans fg) (e3.trans fr) (e2.trans hg) (e4.trans hr) (dp_mono f _ _ rk) (dpAll_mono f _ _ rv) n1 n2 n3 (t.mono f fun b hb => h b (adrs_in3 hb))
theorem RpL.len {K : Kx} {F H : Hp} : ∀ {gs es}, RpL K F H gs es → gs.length = es.length
  | _, _, .nil => rfl
  | _, _, .cons _ _ _ _ _ _ _ _ _ t => congrArg (· + 1) t.len
theorem RpL.free {K : Kx} {F H : Hp} : ∀ {gs es}, RpL K F H gs es → ∀ b ∈ adrs gs, F b = none ∧ ∃ vs, H b = some (.lst vs)
  | _, _, .nil, b, hb => by cases hb
  | _, _, .cons fg fr hg hr _ _ _ _ _ t, b, hb => by
    rcases List.mem_cons.mp hb with rfl | hb
    · exact ⟨fg, _, hg⟩
    · rcases List.mem_cons.mp hb with rfl | hb
      · exact ⟨fr, _, hr⟩
      · exact t.free b hb
def noOwn (ρ : Env) : Bool := ρ.all fun c => match c with
  | some (.own _ _) => false
  | _ => true
/-- the groups, beside the state -/
structure Gm (K : Kx) (F H : Hp) (σ : L2.St) (ρ : Env) (H0 : Hp) (i : Nat) (a : Addr) (gs : List (Addr × Addr)) (es : List Gp) : Prop where
  slot : σ[i]? = some (some (.ref a))
  fa : F a = none
  ha : H a = some (.lst (gs.map fun g => V.ref g.1))
  rg : RpL K F H gs es
  na : a ∉ adrs gs
  own : ∀ b ∈ adrs gs, ¬ Owns σ ρ b ∧ H0 b = none
  no : ¬ Owns σ ρ a
theorem Gm.step {K : Kx} {F H F' H' : Hp} {σ σ' : L2.St} {ρ ρ' : Env} {H0 : Hp} {i : Nat} {a : Addr} {gs es} (g : Gm K F H σ ρ H0 i a gs es) (p : Stp F σ ρ H F' σ' ρ' H') (e : σ'[i]? = σ[i]?) : Gm K F' H' σ' ρ' H0 i a gs es := by
  have kp : ∀ b ∈ adrs gs, F' b = F b ∧ H' b = H b := fun b hb => by
    obtain ⟨vs, hv⟩ := (g.rg.free b hb).2
    obtain ⟨k1, k2⟩ := p.keep b _ hv (g.own b hb).1
    exact ⟨k2, k1.trans hv.symm⟩
  have fr : ∀ b, (∃ o, H b = some o) → ¬ Owns σ ρ b → ¬ Owns σ' ρ' b := fun b ho hn z => by
    rcases p.fresh b z with q | q
    · exact hn q
    · obtain ⟨o, ho⟩ := ho
      rw [q] at ho
      cases ho
  obtain ⟨k1, k2⟩ := p.keep a _ g.ha g.no
  exact ⟨e.trans g.slot, k2.trans g.fa, k1, g.rg.mono p.ff kp, g.na, fun b hb => ⟨fr b (let ⟨vs, hv⟩ := (g.rg.free b hb).2; ⟨_, hv⟩) (g.own b hb).1, (g.own b hb).2⟩, fr a ⟨_, g.ha⟩ g.no⟩
def selB (v : Nat) (gc : Md Bool) : List Gp → Env → Option (List Bool × Env)
  | [], ρ => some ([], ρ)
  | e :: es, ρ => (setC v (.val (gpD e)) ρ).bind fun ρ1 => (gc ρ1).bind fun r => (selB v gc es (wipeE r.2 [v])).bind fun q => some (r.1 :: q.1, q.2)
section
variable {X : Cx} {pos : Pos}
/-- a turn on data -/
def turnL (p q v : Nat) (gk : Md D) (gc g0 : Md Bool) (g2 gx : Md D) (es : List Gp) (ρ1 : Env) : Option (List Gp × Env) :=
  (gk ρ1).bind fun k => (setC p (.val k.1) k.2).bind fun ρ3 => (selB v gc es (wipeE ρ3 [v])).bind fun bs => (setC q (.val (.list (selG es bs.1))) ρ3).bind fun ρ4 => (g0 ρ4).bind fun b =>
    if noOwn ρ3 = true ∧ es.length < 16777216 ∧ lenB es bs.1 < 16777216 ∧ b.1 = (selG es bs.1).isEmpty then
      if b.1 = true then (g2 (ρ3.set q none)).bind fun k2 => (gx k2.2).bind fun x => some (es ++ [(k2.1, [x.1])], x.2)
      else (gx (ρ3.set q none)).bind fun x => some (putG es bs.1 x.1, x.2)
    else none
/-- the loop on data -/
def grpLD (gt : D → Env → Option Env) (p q v : Nat) (gk : Md D) (gc g0 : Md Bool) (g2 gx : Md D) : List D → List Gp → Env → Option (List Gp × Env)
  | [], es, ρ => some (es, ρ)
  | d :: ds, es, ρ => (gt d ρ).bind fun ρ1 => (turnL p q v gk gc g0 g2 gx es ρ1).bind fun r => grpLD gt p q v gk gc g0 g2 gx ds r.1 r.2
def emptyOwnL : Option (Option Cell) → Bool
  | some (some (.own false (.list []))) => true
  | _ => false
def sGrpL (i : Nat) (gi : Md (List D)) (gt : D → Env → Option Env) (p q v : Nat) (gk : Md D) (gc g0 : Md Bool) (g2 gx : Md D) : Sd := fun ρ => (gi ρ).bind fun w => if emptyOwnL w.2[i]? = true then
    (grpLD gt p q v gk gc g0 g2 gx w.1 [] (w.2.set i none)).bind fun r => (setC i (.val (.list (r.1.map gpD))) r.2).bind fun ρ' => some (.nx, ρ') else none
/-- a, b = a list -/
def gTLst (n : Nat) (gs : List D → Env → Option Env) : D → Env → Option Env
  | .list ds, ρ => if ds.length = n then gs ds ρ else none
  | _, _ => none
end
end Dn
set_option maxHeartbeats 1000000
namespace Gz
open PySem
open Sem (wp)
def onlyRet : List Frame → Bool
  | [] => true
  | .ret .. :: fs => onlyRet fs
  | .gen .. :: _ => false
def flatF (F : Frame) : Frame := .ret (fun _ => .unsupported "") none false [] F.where_.1 F.where_.2 []
/-- as it is, but it can't be woken -/
def dead : GenState → GenState
  | .suspended _ l c p fs cl => .suspended (fun _ => .unsupported "") l c p (fs.map flatF) cl
  | x => x
def susp : GenState → Bool
  | .suspended .. => true
  | _ => false
/-- the one table and the other: those that z names sleep in the one so that they can't be woken -/
def Rel (z : Nat → Option GenState) (a b : Array GenState) : Prop := a.size = b.size ∧ ∀ i : Nat, match z i with
  | some x => a[i]? = some (dead x) ∧ b[i]? = some x ∧ susp x = true
  | none => a[i]? = b[i]?
def TabOk (a : Array GenState) : Prop := ∀ (i : Nat) k l c p fs cl, a[i]? = some (.suspended k l c p fs cl) → onlyRet fs = true
def genOk : GenState → Bool
  | .suspended _ _ _ _ fs _ => onlyRet fs
  | _ => true
theorem Rel.set {z : Nat → Option GenState} {a b : Array GenState} (h : Rel z a b) {g : Nat} (hz : z g = none) (y : GenState) : Rel z (a.setIfInBounds g y) (b.setIfInBounds g y) := by
  refine ⟨by simp [h.1], fun i => ?_⟩
  by_cases hi : g = i
  · subst hi
    rw [hz]
    show (a.setIfInBounds g y)[g]? = (b.setIfInBounds g y)[g]?
    rw [Array.getElem?_setIfInBounds, Array.getElem?_setIfInBounds, h.1, if_pos rfl, if_pos rfl]
  · have e1 : (a.setIfInBounds g y)[i]? = a[i]? := Array.getElem?_setIfInBounds_ne hi
    have e2 : (b.setIfInBounds g y)[i]? = b[i]? := Array.getElem?_setIfInBounds_ne hi
    rw [e1, e2]
    exact h.2 i
theorem TabOk.set {a : Array GenState} (h : TabOk a) {g : Nat} {y : GenState} (hy : genOk y = true) : TabOk (a.setIfInBounds g y) := by
  intro i k l c p fs cl e
  by_cases hi : g = i
  · subst hi
    rw [Array.getElem?_setIfInBounds] at e
    rw [if_pos rfl] at e
    split at e
    · cases e
      exact hy
    · cases e
  · rw [Array.getElem?_setIfInBounds_ne hi] at e
    exact h i k l c p fs cl e
theorem Rel.push {z : Nat → Option GenState} {a b : Array GenState} (h : Rel z a b) (y : GenState) : Rel z (a.push y) (b.push y) := by
  refine ⟨by simp [h.1], fun i => ?_⟩
  have e1 : ∀ c : Array GenState, (c.push y)[i]? = if i = c.size then some y else c[i]? := fun c => Array.getElem?_push
  have q := h.2 i
  cases hz : z i with
  | none =>
    rw [hz] at q
    show (a.push y)[i]? = (b.push y)[i]?
    rw [e1, e1, h.1, q]
  | some x =>
    rw [hz] at q
    show (a.push y)[i]? = some (dead x) ∧ (b.push y)[i]? = some x ∧ susp x = true
    obtain ⟨q1, q2, q3⟩ := q
    have hl : i < b.size := by
      rw [Array.getElem?_eq_some_iff] at q2
      exact q2.1
    have hs := h.1
    rw [e1, e1, if_neg (by omega), if_neg (by omega)]
    exact ⟨q1, q2, q3⟩
theorem TabOk.push {a : Array GenState} (h : TabOk a) {y : GenState} (hy : genOk y = true) : TabOk (a.push y) := by
  intro i k l c p fs cl e
  rw [Array.getElem?_push] at e
  split at e
  · cases e
    exact hy
  · exact h i k l c p fs cl e
/-- what slept sleeps on -/
def Kept (a b : Array GenState) : Prop := ∀ (i : Nat) (x : GenState), a[i]? = some x → susp x = true → b[i]? = some x
theorem Kept.refl (a : Array GenState) : Kept a a := fun _ _ h _ => h
theorem Kept.trans {a b c : Array GenState} (h : Kept a b) (h' : Kept b c) : Kept a c := fun i x e s => h' i x (h i x e s) s
end Gz
set_option maxHeartbeats 1000000
namespace Gz
open PySem PySem.Spec PyProof.Rows L2 Dn GenW
def cutH (n : Nat) (h : Heap) : Heap := { h with objs := h.objs.take n }
abbrev rb (X : Cx) (s : Shared) (H : Hp) (n : Nat) : Cx := { X with s_0 := { s with heap := cutH n s.heap }, H_0 := H }
section
variable {X : Cx} {n : Nat} {a : Addr} {g : Nat} {go : Obj} {ip ipw : List (Addr × Obj)} {σ : L2.St} {F Fw Hw H H2 F2 : Hp} {s₀ s s' : Shared} {ρ : Dn.Env}
/-- no list of one's own in it -/
def noOwn (ρ : Dn.Env) : Bool := ρ.all fun o => match o with
  | some (.own _ _) => false
  | _ => true
end
abbrev Gd := Dn.Env → Option (List D × Fl × Dn.Env)
def gP (s : Sd) : Gd := fun ρ => (s ρ).bind fun p => some ([], p.1, p.2)
def gEnd : Gd := fun ρ => some ([], .nx, ρ)
def gThen (s t : Gd) : Gd := fun ρ => (s ρ).bind fun p => match p.2.1 with
  | .nx => (t p.2.2).bind fun q => some (p.1 ++ q.1, q.2)
  | _ => some p
def gYield (e : Md D) : Gd := fun ρ => (e ρ).bind fun p => if noOwn p.2 = true then some ([p.1], .nx, p.2) else none
end Gz
set_option maxHeartbeats 1000000
namespace Gz
open PySem PySem.Spec PyProof.Rows L2 Dn GenW
section
variable (P : Program) (w : World) (K : PySem.W.Frag) (mg : Str → Option Value) (base : Heap) (N : List Str) (qual : Str) (scope : Scope) (f : Addr) (cd : Value)
/-- the context of a generator's body; a: where its object stands -/
abbrev gX (B : Around) (outer : List PySem.Env) (s : Shared) (H : Hp) (a : Addr) (go : Obj) : Cx :=
  { (cxOf CX0 P w K mg base N qual scope f cd B outer s H fun _ _ _ => False).nox with pn := [(a, go)] }
end
end Gz
set_option maxHeartbeats 1000000
namespace Gz
open PySem PySem.Spec PyProof.Rows L2 Dn GenW
section
variable {C : Cx} {pins : List (Addr × Obj)} {n : Nat} {a : Addr} {g : Nat} {go : Obj} {N : List Str} {qual : Str} {scope : Scope} {f : Addr} {cd : Value} {sc : Shared} {Hc : Hp} {σ : L2.St} {F H Fs : Hp} {s ss : Shared} {T : List Addr}
abbrev gC (C : Cx) (N : List Str) (qual : Str) (scope : Scope) (f : Addr) (cd : Value) (sc : Shared) (Hc : Hp) (a : Addr) (go : Obj) : Cx := gX C.prog C.w C.K C.mg C.base N qual scope f cd C.A.in1 C.stack sc Hc a go
/-- the generator's things -/
def Gt (n : Nat) (a : Addr) (g : Nat) (H : Hp) (s : Shared) : Prop := (∀ b ∈ [n, a], H b = none ∧ ∃ o, s.heap.get? b = some o ∧ ∀ v, o.data ≠ .cell v) ∧ s.heap.IsGen a g
end
end Gz
set_option maxHeartbeats 2000000
namespace Gz
open PySem PySem.Spec PyProof.Rows L2 Dn GenW
/-- all that it hands out -/
def runG (N : Nat) (gd : Gd) (args : List D) : Option (List D) := (gd (envV N args)).bind fun p => match p.2.1 with
  | .nx => some p.1
  | _ => none
def gCallG (f : List D → Option (List D)) (gs : Md (List D)) : Md (List D) := fun ρ => (gs ρ).bind fun p => (f p.1).bind fun ds => some (ds, p.2)
end Gz
set_option maxHeartbeats 2000000
namespace Gz
open PySem PySem.Spec PyProof.Rows L2 Dn GenW
end Gz
set_option maxHeartbeats 2000000
namespace Gz
open PySem PySem.Spec PyProof.Rows L2 Dn GenW
end Gz
set_option maxHeartbeats 4000000
namespace Dn
open PySem PySem.Spec PyProof.Rows L2 DnSo
end Dn
set_option maxHeartbeats 4000000
namespace Dn
open PySem PySem.Spec PyProof.Rows L2 DnSo PpSet
end Dn
set_option maxHeartbeats 4000000
namespace Dn
open PySem PySem.Spec PyProof.Rows L2 DnSo
end Dn
set_option maxHeartbeats 4000000
namespace Dn
open PySem PySem.Spec PyProof.Rows L2 DnSo
end Dn
set_option maxHeartbeats 2000000
namespace Dn
open PySem PySem.Spec PyProof.Rows L2
end Dn
set_option maxHeartbeats 2000000
namespace Dn
open PySem PySem.Spec PyProof.Rows L2
def keyEq : D → D → Bool
  | .int i, .int j => decide (i = j)
  | .str x, .str y => decide (x = y)
  | _, _ => false
def isKey : D → Bool
  | .int _ => true
  | .str _ => true
  | _ => false
def lkp : List (D × D) → D → Option D
  | [], _ => none
  | (a, d) :: es, k => if keyEq a k = true then some d else lkp es k
/-- a dict of such keys, or the empty one -/
def dkOk : List (D × D) → Bool
  | [] => false
  | [(.none, _)] => true
  | es => es.all fun p => isKey p.1
theorem isKey_key {d : D} (h : isKey d = true) : ∃ k : Key, d = keyD k := by
  cases d <;> first | cases h | skip
  · exact ⟨.inl _, rfl⟩
  · exact ⟨.inr _, rfl⟩
theorem rp_keyU {K : Kx} {F : Hp} {v : V} {k : Key} (h : Rp K F v (keyD k)) : v = kV k := by
  cases k <;> (cases h; rfl)
theorem keyEq_iff (a b : Key) : keyEq (keyD a) (keyD b) = decide (a = b) := by
  cases a <;> cases b <;> simp [keyD, keyEq]
theorem rpKV_look {K : Kx} {F : Hp} : ∀ {ks : List (Key × V)} {es : List (D × D)}, RpKV K F ks es → ∀ k : Key, (valV ks k = none ∧ lkp es (keyD k) = none) ∨ ∃ v d, valV ks k = some v ∧ lkp es (keyD k) = some d ∧ Rp K F v d
  | _, _, .nil, k => .inl ⟨rfl, rfl⟩
  | _, _, @RpKV.cons _ _ k0 v ks d es h1 h2, k => by
    rw [lkp, keyEq_iff]
    unfold valV
    rw [List.find?_cons]
    by_cases h : k0 = k
    · simp only [h, decide_true]
      exact .inr ⟨v, d, rfl, rfl, h1⟩
    · simp only [h, decide_false, Bool.false_eq_true, ↓reduceIte]
      exact rpKV_look h2 k
theorem nkD_key {d : D} {k : NestedKey} (h : nkD d = some k) {K : Kx} {F : Hp} {a : Addr} (r : Rp K F (.ref a) d) : isKey d = false ∧ d ≠ .none := by
  cases r <;> exact ⟨rfl, fun z => nomatch z⟩
theorem rpN_no {K : Kx} {F : Hp} : ∀ {xs : List (NestedKey × Addr × V)} {es : List (D × D)}, RpN K F xs es → (∀ k, lkp es k = none) ∧ dkOk es = false
  | _, _, .nil => ⟨fun _ => rfl, rfl⟩
  | _, _, @RpN.cons _ _ k ka x dk dv xs es hk h1 h2 h3 => by
    obtain ⟨i1, i2⟩ := nkD_key hk h1
    refine ⟨fun q => ?_, ?_⟩
    · have e : keyEq dk q = false := by
        cases dk <;> first | rfl | cases i1
      rw [lkp, e]
      exact (rpN_no h3).1 q
    · cases dk <;> first | exact absurd rfl i2 | exact Bool.noConfusion i1 | (cases es <;> simp [dkOk, isKey])
/-- d[k], d a dict, a list or a tuple -/
def ixU : D → D → Option D
  | .dict es, k => if isKey k = true then lkp es k else none
  | d, k => ixD d k
section
variable {X : Cx} {e tg : Expr} {apos cpos pos : Pos}
theorem ix_U (hu : X.A.units + 64 < cLine) : IxR X (rP2 (cxK X) ixU) := by
  intro value slice pins s σ H x y v u Q I rx ry h hs
  obtain ⟨F, d, e, r, sf, hd, he, ef, k⟩ := h
  unfold ixU at ef
  split at ef
  · rename_i es
    split at ef
    · rename_i hk
      obtain ⟨kk, rfl⟩ := isKey_key hk
      obtain rfl := rp_keyU he
      cases hd with
      | @dic a ob ks _ h1 h2 _ =>
        rcases rpKV_look h2 kk with ⟨_, z⟩ | ⟨w, dd, e1, e2, rw'⟩
        · rw [z] at ef; cases ef
        · rw [e2] at ef
          cases ef
          have g : DGet H a (kV kk) (some w) := .inl ⟨ks, kk, .inr ⟨ob, sf _ _ h1⟩, rfl, e1.symm⟩
          obtain rfl : v = Value.ref a := rx
          exact tail_any (dict_typeIs I g) PySem.F.slot_dict_getitem.lookup (d_getItem (by omega) I g ry fun w' s' J rr => ⟨w, H, J, rr, k w F H (Grow.refl sf) rw'⟩) hs
      | dicE h1 =>
        have e1 : keyEq .none (keyD kk) = false := by cases kk <;> rfl
        simp [lkp, e1] at ef
      | dicN h1 h2 =>
        rw [(rpN_no h2).1] at ef
        cases ef
    · cases ef
  · exact ix_D value slice pins s σ H x y v u Q I rx ry ⟨F, d, e, r, sf, hd, he, ef, k⟩ hs
/-- k in d -/
def inU (d e : D) : Option D := match e with
  | .dict es => if isKey d = true ∧ dkOk es = true then some (.bool (lkp es d).isSome) else none
  | e => inD d e
theorem rp_look {K : Kx} {F H : Hp} (sf : Same F H) {y : V} {es : List (D × D)} (hd : Rp K F y (.dict es)) (ok : dkOk es = true) (kk : Key) : ∃ (a : Addr) (o : Option V), y = .ref a ∧ DGet H a (kV kk) o ∧ ((o = none ∧ lkp es (keyD kk) = none) ∨ ∃ v d, o = some v ∧ lkp es (keyD kk) = some d ∧ Rp K F v d) := by
  cases hd with
  | @dic a ob ks _ h1 h2 _ => exact ⟨a, valV ks kk, rfl, .inl ⟨ks, kk, .inr ⟨ob, sf _ _ h1⟩, rfl, rfl⟩, rpKV_look h2 kk⟩
  | @dicE a ob h1 =>
    have e1 : keyEq .none (keyD kk) = false := by cases kk <;> rfl
    exact ⟨a, none, rfl, .inl ⟨[], kk, .inr ⟨ob, sf _ _ h1⟩, rfl, rfl⟩, .inl ⟨rfl, by simp [lkp, e1]⟩⟩
  | dicN h1 h2 =>
    rw [(rpN_no h2).2] at ok
    cases ok
theorem op_inU (hu : X.A.units + 65 < cLine) : OpR X (compareOp .In) (rP2 (cxK X) inU) := by
  intro pins s σ H x y v u Q I rx ry h
  obtain ⟨F, d, e, r, sf, hd, he, ef, k⟩ := h
  unfold inU at ef
  split at ef
  · rename_i es
    split at ef
    · rename_i ok
      obtain ⟨kk, rfl⟩ := isKey_key ok.1
      obtain rfl := rp_keyU hd
      cases ef
      obtain ⟨a, o, rfl, g, hl⟩ := rp_look sf he ok.2 kk
      obtain rfl : u = Value.ref a := ry
      refine d_in (by omega) I g rx fun s' J => ⟨.bl o.isSome, H, J, rfl, ?_⟩
      refine k (.bl o.isSome) F H (Grow.refl sf) ?_
      have e1 : o.isSome = (lkp es (keyD kk)).isSome := by
        rcases hl with ⟨h1, h2⟩ | ⟨w, dd, h1, h2, _⟩ <;> rw [h1, h2] <;> rfl
      rw [e1]
      exact .bl _
    · cases ef
  · exact op_inD' hu pins s σ H x y v u Q I rx ry ⟨F, d, e, r, sf, hd, he, ef, k⟩
/-- for k in d -/
def keysU (es : List (D × D)) : List D := (es.map (·.1)).filter isKey
def gKeys (g : Md D) : Md (List D) := fun ρ => (g ρ).bind fun p => match p.1 with
  | .dict es => if dkOk es = true then some (keysU es, p.2) else none
  | _ => none
theorem rpKV_keys {K : Kx} {F : Hp} : ∀ {ks : List (Key × V)} {es : List (D × D)}, RpKV K F ks es → keysU es = ks.map fun p => keyD p.1
  | _, _, .nil => rfl
  | _, _, @RpKV.cons _ _ k0 v ks d es h1 h2 => by
    have ih := rpKV_keys h2
    unfold keysU at ih ⊢
    have e : isKey (keyD k0) = true := by cases k0 <;> rfl
    rw [List.map_cons, List.filter_cons, if_pos e, ih]
    rfl
theorem it_keys {K : Kx} {F : Hp} {a : Addr} {ob : Obj} {ks : List (Key × V)} (h : F a = some (.frz ob (.dK ks))) : ItOk K F (Itk a ob ks) (ks.map fun p => keyD p.1) := fun F1 H s1 s2 i => by
  have hH := s2 _ _ (s1 _ _ h)
  refine ⟨fun d e => ?_, fun hl => ⟨hH, by simpa using hl⟩⟩
  rw [List.getElem?_map] at e
  cases q : ks[i]? with
  | none => rw [q] at e; cases e
  | some p =>
    rw [q] at e
    cases e
    refine ⟨⟨hH, (List.getElem?_eq_some_iff.mp q).1⟩, fun y H' hy => ?_⟩
    obtain ⟨rfl, k, v, e2, rfl⟩ := hy
    rw [q] at e2
    cases e2
    refine ⟨F1, Grow.refl s2, ?_⟩
    cases k with
    | inl i => exact .int i
    | inr x => exact .str x
theorem di_keys {g : Md D} (h : DE X e g) : DI X tg e (gKeys g) := pi_imp (pi_keys h) fun σ H R q => by
  obtain ⟨F, ρ, ds, ρ', s, eg, k⟩ := q
  obtain ⟨⟨d, ρ1⟩, e1, eg1⟩ := bind_some eg
  refine ⟨F, ρ, d, ρ1, s, e1, fun v F1 H1 p1 s1 r1 => ?_⟩
  cases d with
  | dict es =>
    have eg2 : (if dkOk es = true then some (keysU es, ρ1) else none) = some (ds, ρ') := eg1
    split at eg2
    · rename_i ok
      cases eg2
      cases r1 with
      | @dic a ob ks _ h1 h2 _ =>
        rw [rpKV_keys h2] at k
        exact ⟨a, ob, rfl, .inl ⟨ks, s1.sub _ _ h1, k _ F1 H1 p1 s1 (it_keys h1)⟩⟩
      | @dicE a ob h1 => exact ⟨a, ob, rfl, .inl ⟨[], s1.sub _ _ h1, k _ F1 H1 p1 s1 (it_keys h1)⟩⟩
      | dicN h1 h2 =>
        rw [(rpN_no h2).2] at ok
        cases ok
    · cases eg2
  | none => cases eg1
  | bool _ => cases eg1
  | int _ => cases eg1
  | str _ => cases eg1
  | list _ => cases eg1
  | tuple _ => cases eg1
end
end Dn
set_option maxHeartbeats 2000000
namespace Dn
open PySem PySem.Spec PyProof.Rows L2
end Dn
set_option maxHeartbeats 2000000
namespace Dn
open PySem PySem.Spec PyProof.Rows L2
end Dn
set_option maxHeartbeats 2000000
namespace Dn
open PySem PySem.Spec PyProof.Rows L2
theorem own_txt {K : Kx} {F H : Hp} {a : Addr} {es : List (D × D)} (h : OwnAt K F H a (.tuple [.dict es])) : F a = none ∧ ∃ ks, H a = some (.dK ks) ∧ RpKV K F ks es := by
  obtain ⟨f, h⟩ := h
  rcases h with ⟨xs, ds, e, _⟩ | ⟨xs, es', e, _⟩ | ⟨ks, es', e, hh, r⟩
  · cases e
  · cases e
  · cases e
    exact ⟨f, ks, hh, r⟩
def putU (es : List (D × D)) (k v : D) : List (D × D) := if es.any (fun p => keyEq p.1 k) = true then es.map (fun p => if keyEq p.1 k = true then (p.1, v) else p) else es ++ [(k, v)]
theorem rpKV_any {K : Kx} {F : Hp} {k : Key} : ∀ {ks : List (Key × V)} {es : List (D × D)}, RpKV K F ks es → (ks.any fun p => decide (p.1 = k)) = es.any fun p => keyEq p.1 (keyD k)
  | _, _, .nil => rfl
  | _, _, @RpKV.cons _ _ k0 v ks d es h1 h2 => by rw [List.any_cons, List.any_cons, rpKV_any h2, keyEq_iff]
theorem rpKV_map {K : Kx} {F : Hp} {k : Key} {v : V} {d : D} (r : Rp K F v d) : ∀ {ks : List (Key × V)} {es : List (D × D)}, RpKV K F ks es → RpKV K F (ks.map fun p => if p.1 = k then (p.1, v) else p) (es.map fun p => if keyEq p.1 (keyD k) = true then (p.1, d) else p)
  | _, _, .nil => .nil
  | _, _, @RpKV.cons _ _ k0 v0 ks d0 es h1 h2 => by
    rw [List.map_cons, List.map_cons]
    have e := keyEq_iff k0 k
    by_cases z : k0 = k
    · rw [decide_eq_true z] at e
      rw [if_pos z, if_pos e]
      exact .cons r (rpKV_map r h2)
    · rw [decide_eq_false z] at e
      rw [if_neg z, if_neg (by rw [e]; exact Bool.false_ne_true)]
      exact .cons h1 (rpKV_map r h2)
theorem rpKV_snoc {K : Kx} {F : Hp} {k : Key} {v : V} {d : D} (r : Rp K F v d) : ∀ {ks : List (Key × V)} {es : List (D × D)}, RpKV K F ks es → RpKV K F (ks ++ [(k, v)]) (es ++ [(keyD k, d)])
  | _, _, .nil => .cons r .nil
  | _, _, .cons h1 h2 => .cons h1 (rpKV_snoc r h2)
theorem rpKV_put {K : Kx} {F : Hp} {k : Key} {v : V} {d : D} (r : Rp K F v d) {ks : List (Key × V)} {es : List (D × D)} (h : RpKV K F ks es) : RpKV K F (putK ks k v) (putU es (keyD k) d) := by
  unfold putK putU
  rw [rpKV_any h]
  split
  · exact rpKV_map r h
  · exact rpKV_snoc r h
theorem rpKV_len {K : Kx} {F : Hp} : ∀ {ks : List (Key × V)} {es : List (D × D)}, RpKV K F ks es → ks.length = es.length
  | _, _, .nil => rfl
  | _, _, .cons _ h2 => congrArg (· + 1) (rpKV_len h2)
section
variable {X : Cx} {x : Str} {pos p : Pos}
def sNewT (i : Nat) : Sd := fun ρ => (setC i (.own false (.tuple [.dict []])) ρ).bind fun r => some (.nx, r)
theorem ds_newT {i : Nat} {pos' : Pos} (hN : X.N.Nodup) (hi : X.N[i]? = some x) (hx : Loc X.env.scope x) (hs : swapsWith (.Dict [] [] p) (some (.Name x pos')) pos.line X.env = pure false := by rfl) (hf : X.fn x = true ∨ X.env.scope.names.lookup x = some .local := by first | exact Or.inr rfl | exact Or.inl rfl) : DS X (.Assign [.Name x pos'] (.Dict [] [] p) pos) (sNewT i) :=
  ps_imp (ps_set hN hi hx pe_dnewK hs hf) fun E σ H q => by
    obtain ⟨F, ρ, f, ρ', s, eg, k⟩ := q
    obtain ⟨r, e2, eg2⟩ := bind_some eg
    cases eg2
    intro a hp
    have gr : Grow F H F (upd H a (.dK [])) := Grow.own s.sub hp
    have o : OwnAt (cxK X) F (upd H a (.dK [])) a (.tuple [.dict []]) := ⟨none_sub s.sub hp, .inr (.inr ⟨[], [], rfl, upd_same, .nil⟩)⟩
    refine k _ F _ (stp_set (gr.stp σ ρ) e2 fun _ _ b _ z => ?_) (st_set (s.grow gr) e2 ⟨a, rfl, o⟩ fun f _ b z1 z => ?_)
    · cases z
      exact hp
    · cases z
      cases z1
      exact ⟨rfl, not_owns s hp⟩
def sSetT (i : Nat) (gv gk : Md D) : Sd := fun ρ => (gv ρ).bind fun p => match p.2[i]? with
  | some (some (.own _ _)) => (gk p.2).bind fun q => match q.2[i]? with
    | some (some (.own b (.tuple [.dict es]))) => if isKey q.1 = true ∧ es.length < 16777216 then some (.nx, q.2.set i (some (.own b (.tuple [.dict (putU es q.1 p.1)])))) else none
    | _ => none
  | _ => none
theorem ds_setT (i : Nat) {y : Str} {py tpos : Pos} {e a : Expr} {gv gi : Md D} (hu : X.A.units + 65 < cLine) (he : DE X e gv) (hi : DE X a gi) (hN : X.N[i]? = some y := by rfl) (hv : Vis X.env.scope y := by first | exact Or.inl rfl | exact Or.inr (Or.inl rfl) | exact Or.inr (Or.inr rfl)) (hdy : (y == ("__debug__" : Str)) = false := by decide) (hcd : (y == ("__classdict__" : Str)) = false := by decide)
    (hs : swapsWith e (some (.Subscript (.Name y py) a tpos)) pos.line X.env = pure false := by rfl) : DS X (.Assign [.Subscript (.Name y py) a tpos] e pos) (sSetT i gv gi) :=
  ps_imp (ps_dput (by omega) (pe_var hN hv hdy hcd) hi he hs) fun E σ H q => by
    obtain ⟨F, ρ, f, ρ', s, eg, k⟩ := q
    obtain ⟨⟨d, ρ1⟩, e1, eg1⟩ := bind_some eg
    simp only at eg1
    split at eg1
    · rename_i b0 d0 h0
      obtain ⟨⟨dk, ρ2⟩, e2, eg2⟩ := bind_some eg1
      simp only at eg2
      split at eg2
      · rename_i b1 es h1
        split at eg2
        · rename_i hc
          cases eg2
          obtain ⟨kk, rfl⟩ := isKey_key hc.1
          refine ⟨F, ρ, d, ρ1, s, e1, fun v F1 H1 p1 s1 r1 => ?_⟩
          obtain ⟨a0, ea, o0, _⟩ := st_owned s1 h0
          refine ⟨.ref a0, ea, F1, ρ1, _, ρ2, s1, e2, fun u F2 H2 p2 s2 r2 => ?_⟩
          obtain ⟨a1, ea1, o1, _⟩ := st_owned s2 h1
          rw [ea] at ea1
          cases ea1
          obtain ⟨f1, ks, hx, rx⟩ := own_txt o1
          obtain rfl := rp_keyU r2
          have rp := rpKV_put (k := kk) (dp_mono p2.ff _ _ r1) rx
          have o2 : OwnAt (cxK X) F2 (upd H2 a0 (.dK (putK ks kk v))) a0 (.tuple [.dict (putU es (keyD kk) d)]) := ⟨f1, .inr (.inr ⟨_, _, rfl, upd_same, rp⟩)⟩
          refine ⟨a0, _, rfl, .inl ⟨ks, kk, hx, rfl, by rw [rpKV_len rx, line_eq]; exact hc.2, rfl⟩, ?_⟩
          have sh : Same F2 (upd H2 a0 (.dK (putK ks kk v))) := fun c u hc' => by rw [upd_ne (ne_of_none hc' f1)]; exact s2.sub c u hc'
          obtain ⟨s3, p3⟩ := st_own_set s2 h1 ea (Same.refl _) sh (fun c u hc' n => ⟨by rw [upd_ne n]; exact hc', rfl⟩) o2
          exact k σ F2 _ (p1.trans (p2.trans p3)) s3
        · cases eg2
      · cases eg2
    · cases eg1
/-- such a dict comes to stand for good -/
def frzT : List (D × D) → D
  | [] => .dict [(.none, .none)]
  | es => .dict es
def gFrzT (i : Nat) : Md D := fun ρ => match ρ[i]? with
  | some (some (.val d)) => some (d, ρ)
  | some (some (.own false (.tuple [.dict es]))) => some (frzT es, ρ.set i (some (.val (frzT es))))
  | _ => none
theorem pe_frzV {e : Expr} {t : TE} (h : PE X e t) : PE X e (fun σ H Q => t σ H fun v H1 => Q v H1 ∨ ∃ (a : Addr) (kvs : List (Key × V)), v = .ref a ∧ H1 a = some (.dK kvs) ∧ ∀ od, Q v (upd H1 a (.frz od (.dK kvs)))) := by
  refine ⟨fun pins s σ H Q I q => ?_⟩
  refine wpAny_mono (h.run pins s σ H _ I q) (fun u s1 hu => ?_) fun _ _ z => z
  obtain ⟨v, H1, I1, r1, q1⟩ := hu
  rcases q1 with q1 | ⟨a, kvs, rfl, ha, q1⟩
  · exact ⟨_, _, I1, r1, q1⟩
  · obtain ⟨od, J⟩ := I1.lock ha trivial
    exact ⟨_, _, J, r1, q1 od⟩
theorem de_frzT (i : Nat) {x : Str} (hN : X.N[i]? = some x := by rfl) (hv : Vis X.env.scope x := by first | exact Or.inl rfl | exact Or.inr (Or.inl rfl) | exact Or.inr (Or.inr rfl)) (hd : (x == ("__debug__" : Str)) = false := by decide) (hcd : (x == ("__classdict__" : Str)) = false := by decide) : DE X (.Name x pos) (gFrzT i) :=
  pe_imp (pe_frzV (pe_var hN hv hd hcd)) fun σ H Q q => by
    obtain ⟨F, ρ, d, ρ', s, eg, k⟩ := q
    unfold gFrzT at eg
    split at eg
    · rename_i d' h
      cases eg
      obtain ⟨v, e1, r⟩ := st_val s h
      exact ⟨v, e1, .inl (k v F H Stp.refl s r)⟩
    · rename_i es h
      cases eg
      obtain ⟨a, e1, r, ow⟩ := st_owned s h
      obtain ⟨f0, ks, hx, rk⟩ := own_txt r
      refine ⟨.ref a, e1, .inr ⟨a, ks, rfl, hx, fun od => ?_⟩⟩
      have sf : Same F (upd F a (.frz od (.dK ks))) := same_new f0
      have rd : Rp (cxK X) (upd F a (.frz od (.dK ks))) (.ref a) (frzT es) := by
        cases es with
        | nil => cases rk; exact .dicE upd_same
        | cons p es => exact .dic upd_same (dpKV_mono sf _ _ rk) (by simp)
      refine k (.ref a) (upd F a (.frz od (.dK ks))) (upd H a (.frz od (.dK ks))) ⟨sf, fun b o hb nb => ?_, fun b hb => ?_, fun j dj hj => ?_, fun b o hb => ?_⟩ ?_ rd
      · have n : b ≠ a := fun z => nb (by subst z; exact ow)
        exact ⟨(upd_ne n).trans hb, upd_ne n⟩
      · obtain ⟨j, f, dj, h1, h2⟩ := hb
        by_cases z : j = i
        · subst z
          rw [get_set_self h] at h1
          cases h1
        · rw [get_set_ne z] at h1
          exact .inl ⟨j, f, dj, h1, h2⟩
      · have z : j ≠ i := fun z => by
          subst z
          rw [h] at hj
          cases hj
        exact ⟨rfl, dj, by rw [get_set_ne z]; exact hj⟩
      · by_cases z : b = a
        · subst z
          exact ⟨_, upd_same⟩
        · exact ⟨o, (upd_ne z).trans hb⟩
      · refine ⟨same_upd2 s.sub, by rw [List.length_set]; exact s.len, fun j c hj => ?_, fun j l f g dj dl b h1 h2 h3 h4 => ?_⟩
        · by_cases z : j = i
          · subst z
            rw [get_set_self h] at hj
            cases hj
            exact ⟨.ref a, e1, rd⟩
          · rw [get_set_ne z] at hj
            have q := s.cell j c hj
            cases c with
            | val dj =>
              obtain ⟨v, e2, r2⟩ := q
              exact ⟨v, e2, dp_mono sf _ _ r2⟩
            | own f dj =>
              obtain ⟨b, e2, r2⟩ := q
              have n : b ≠ a := fun y => by
                subst y
                exact z (s.dist j i _ _ _ _ b hj h e2 e1)
              exact ⟨b, e2, (upd_ne n).trans r2.1, r2.2.mono sf fun o e => (upd_ne n).trans e⟩
        · by_cases z : j = i
          · subst z
            rw [get_set_self h] at h1
            cases h1
          · by_cases z2 : l = i
            · subst z2
              rw [get_set_self h] at h2
              cases h2
            · rw [get_set_ne z] at h1
              rw [get_set_ne z2] at h2
              exact s.dist j l f g dj dl b h1 h2 h3 h4
    · cases eg
end
end Dn
set_option maxHeartbeats 2000000
namespace Dn
open PySem PySem.Spec PyProof.Rows L2
mutual
/-- no dict with tuple keys -/
def noN : D → Bool
  | .dict es => dkOk es && noNKV es
  | .list ds => noNAll ds
  | .tuple ds => noNAll ds
  | _ => true
def noNAll : List D → Bool
  | [] => true
  | d :: ds => noN d && noNAll ds
def noNKV : List (D × D) → Bool
  | [] => true
  | (_, d) :: es => noN d && noNKV es
end
mutual
/-- the marked empty dict as it is -/
def unE : D → D
  | .dict [(.none, .none)] => .dict []
  | .dict es => .dict (unKV es)
  | .list ds => .list (unAll ds)
  | .tuple ds => .tuple (unAll ds)
  | d => d
def unAll : List D → List D
  | [] => []
  | d :: ds => unE d :: unAll ds
def unKV : List (D × D) → List (D × D)
  | [] => []
  | (k, d) :: es => (k, unE d) :: unKV es
end
theorem sys_at {X : Cx} {pins : List (Addr × Obj)} {σ : L2.St} {H : Hp} {s : Shared} (I : Inv X pins σ H s) (hm : ∃ mm, X.base.Ns sysModules mm) : H sysModules = none ∧ ∃ o es ep, s.heap.get? sysModules = some o ∧ o.data = .dict es ep := by
  obtain ⟨mm, o, es, ep, e, d, _⟩ := hm
  obtain ⟨h1, h2⟩ := I.bs _ _ e
  exact ⟨h2, o, es, ep, h1, d⟩
section
variable {X : Cx} {pins : List (Addr × Obj)} {σ : L2.St} {H : Hp} {s : Shared}
theorem key_reads {k : Key} {v : Value} {h : Heap} (e : keyIs k v = true) : Reads h v (keyD k) [] := by
  rcases keyIs_shape e with ⟨i, t, rfl, rfl⟩ | ⟨x, t, rfl, rfl⟩
  · exact .int i t
  · exact .str x t
theorem rpKV_hd {K : Kx} {F : Hp} {ks : List (Key × V)} {x d : D} {es : List (D × D)} (h : RpKV K F ks ((x, d) :: es)) : isKey x = true := by
  cases h with
  | @cons k _ _ _ _ _ _ => cases k <;> rfl
theorem pairs_nil {P : Program} {w : World} {l : List DictEntry} (h : Pairs (mixKind P w) l []) : l = [] := by
  cases h
  rfl
mutual
theorem rp_reads (I : Inv X pins σ H s) (hm : ∃ mm, X.base.Ns sysModules mm) : ∀ (d : D) (v : V) (u : Value), Rp (cxK X) H v d → noN d = true → RelV v u → ∃ as, Reads s.heap u (unE d) as ∧ sysModules ∉ as
  | .none, _, _, h, _, r => by
    cases h
    cases r
    exact ⟨_, Reads.none, by simp⟩
  | .bool b, _, _, h, _, r => by
    cases h
    cases r
    exact ⟨_, Reads.bool b, by simp⟩
  | .int i, _, _, h, _, r => by
    cases h
    obtain ⟨t, rfl⟩ := r
    exact ⟨_, Reads.int i t, by simp⟩
  | .str x, _, _, h, _, r => by
    cases h
    obtain ⟨t, rfl⟩ := r
    exact ⟨_, Reads.str x t, by simp⟩
  | .list ds, _, _, h, n, r => by
    cases h with
    | lst hs ha =>
      cases r
      obtain ⟨its, rv, ⟨o, k, ho, hc, _, hd⟩, _⟩ := I.list hs
      obtain ⟨as, hr, hn⟩ := rp_readsAll I hm ds _ its ha n rv
      refine ⟨_, Reads.list ho hc hd hr, fun z => ?_⟩
      rcases List.mem_cons.mp z with z | z
      · obtain ⟨_, o', es, ep, e1, e2⟩ := sys_at I hm
        rw [z, ho] at e1
        cases e1
        rw [hd] at e2
        cases e2
      · exact hn z
  | .tuple ds, _, _, h, n, r => by
    cases h with
    | tup hs ha =>
      cases r
      obtain ⟨its, rv, ⟨o, ho, hc, k, hd⟩, _⟩ := I.tuple hs
      obtain ⟨as, hr, hn⟩ := rp_readsAll I hm ds _ its ha n rv
      exact ⟨_, Reads.tuple ho hc hd hr, hn⟩
  | .dict es, _, _, h, n, r => by
    have n' : dkOk es = true ∧ noNKV es = true := by simpa [noN] using n
    cases h with
    | @dic a ob ks _ hs hr hne =>
      cases r
      obtain ⟨_, hd, vs, rel, o, ents, ep, ho, hc, hdat, _, hp, _⟩ := dk_rd I.hok (.inr ⟨ob, hs⟩)
      obtain ⟨as, bs, h1, h2, h3, h4⟩ := rp_readsKV I hm es ks vs ents.toList hr n'.2 rel hp
      have eu : unE (.dict es) = .dict (unKV es) := by
        unfold unE
        split
        · rename_i e
          injection e with e
          subst e
          have q := rpKV_hd hr
          cases q
        · rename_i e
          injection e with e
          subst e
          rfl
        · rename_i e; cases e
        · rename_i e; cases e
        · rename_i q1 q2 q3 q4
          exact absurd rfl (q2 es)
      rw [eu]
      refine ⟨_, Reads.dict ho hc.1 hdat h1 h2, fun z => ?_⟩
      rw [List.cons_append] at z
      rcases List.mem_cons.mp z with z | z
      · rw [← z] at hd
        simp at hd
      · rcases List.mem_append.mp z with z | z
        · exact h3 z
        · exact h4 z
    | @dicE a ob hs =>
      cases r
      obtain ⟨_, hd, vs, rel, o, ents, ep, ho, hc, hdat, _, hp, _⟩ := dk_rd I.hok (.inr ⟨ob, hs⟩)
      cases rel
      have ee : ents.toList = [] := pairs_nil hp
      refine ⟨_, Reads.dict ho hc.1 hdat (as := []) (bs := []) (kvs := []) (by rw [ee]; exact .nil) (by rw [ee]; exact .nil), fun z => ?_⟩
      rw [List.append_nil] at z
      rw [← List.mem_singleton.mp z] at hd
      simp at hd
    | dicN h1 h2 =>
      rw [(rpN_no h2).2] at n'
      exact absurd n'.1 Bool.false_ne_true
theorem rp_readsAll (I : Inv X pins σ H s) (hm : ∃ mm, X.base.Ns sysModules mm) : ∀ (ds : List D) (vs : List V) (us : List Value), RpAll (cxK X) H vs ds → noNAll ds = true → Vals vs us → ∃ as, ReadsAll s.heap us (unAll ds) as ∧ sysModules ∉ as
  | [], _, _, h, _, r => by
    cases h
    cases r
    exact ⟨_, ReadsAll.nil, by simp⟩
  | d :: ds, _, _, h, n, r => by
    have n' : noN d = true ∧ noNAll ds = true := by simpa [noNAll] using n
    cases h with
    | cons h1 h2 =>
      cases r with
      | cons r1 r2 =>
        obtain ⟨as, q1, q2⟩ := rp_reads I hm d _ _ h1 n'.1 r1
        obtain ⟨bs, q3, q4⟩ := rp_readsAll I hm ds _ _ h2 n'.2 r2
        exact ⟨_, ReadsAll.cons q1 q3, fun z => (List.mem_append.mp z).elim q2 q4⟩
theorem rp_readsKV (I : Inv X pins σ H s) (hm : ∃ mm, X.base.Ns sysModules mm) : ∀ (es : List (D × D)) (ks : List (Key × V)) (vs : List (Key × Value)) (ents : List DictEntry), RpKV (cxK X) H ks es → noNKV es = true → KV ks vs → Pairs (mixKind X.prog X.w) ents vs →
    ∃ as bs, ReadsAll s.heap (ents.map (·.key)) ((unKV es).map (·.1)) as ∧ ReadsAll s.heap (ents.map (·.val)) ((unKV es).map (·.2)) bs ∧ sysModules ∉ as ∧ sysModules ∉ bs
  | [], _, _, _, h, _, r, p => by
    cases h
    cases r
    cases p
    exact ⟨_, _, ReadsAll.nil, ReadsAll.nil, by simp, by simp⟩
  | (k, d) :: es, _, _, _, h, n, r, p => by
    have n' : noN d = true ∧ noNKV es = true := by simpa [noNKV] using n
    cases h with
    | cons h1 h2 =>
      cases r with
      | cons r1 r2 =>
        cases p with
        | cons p1 p2 p3 =>
          obtain ⟨as, bs, a1, a2, a3, a4⟩ := rp_readsKV I hm es _ _ _ h2 n'.2 r2 p3
          obtain ⟨cs, q1, q2⟩ := rp_reads I hm d _ _ h1 n'.1 r1.2
          rw [← p2] at q1
          have kr := key_reads (h := s.heap) p1
          rw [← r1.1] at kr
          exact ⟨_, _, ReadsAll.cons kr a1, ReadsAll.cons q1 a2, by simpa using a3, fun z => (List.mem_append.mp z).elim q2 a4⟩
end
end
def reprOkU (d : D) : Bool := noN d && decide ((unE d).depth ≤ 16) && PyData.showable (unE d) && PyData.leavesShort 13 (unE d) && decide ((unE d).weight ≤ 2 ^ 20)
def reprFU : List D → Option D
  | [.list xs] => if reprOkU (.list xs) = true then some (.str (unE (.list xs)).shown) else none
  | [.dict xs] => if reprOkU (.dict xs) = true then some (.str (unE (.dict xs)).shown) else none
  | _ => none
section
variable {X : Cx}
theorem repr_refU {pins : List (Addr × Obj)} {s : Shared} {σ : L2.St} {F H : Hp} {Q : VK} {d : D} {a : Addr} (hm : ∃ mm, X.base.Ns sysModules mm) (hg : X.A.guards = some []) (hu : X.A.units + 65 < cLine) (I : Inv X pins σ H s) (sf : Same F H) (hp : Rp (cxK X) F (.ref a) d) (ok : reprOkU d = true)
    (k : ∀ v F' H', Grow F H F' H' → Rp (cxK X) F' v (.str (unE d).shown) → Q v H') : wpAny (model X.prog X.w) X.A (call (.builtin "repr") [.ref a]) (fun u s' => ∃ v H', Inv X pins σ H' s' ∧ RelV v u ∧ Q v H') X.xe s := by
  unfold reprOkU at ok
  simp only [Bool.and_eq_true, decide_eq_true_eq] at ok
  obtain ⟨⟨⟨⟨c1, c2⟩, c3⟩, c4⟩, c5⟩ := ok
  obtain ⟨as, r, hn⟩ := rp_reads I hm d (.ref a) (.ref a) (dp_mono sf _ _ hp) c1 rfl
  refine repr_of_reads' r c3 (fun _ => hn) hg (by omega) (fun _ _ e => e) (fun h' u tk hk => ?_) (PyData.shown_fits (by decide) (by decide) c4 c5)
  exact ⟨.str (unE d).shown, H, I.kept (t' := tk) hk, ⟨_, rfl⟩, k _ F H (Grow.refl sf) (.str _)⟩
theorem call_reprU (hm : ∃ mm, X.base.Ns sysModules mm) (hg : X.A.guards = some []) (hu : X.A.units + 65 < cLine) : CallR X (.builtin "repr") (rPn (cxK X) reprFU) := by
  intro pins s σ H xs us Q I rx h
  obtain ⟨F, ds, r, sf, hd, ef, k⟩ := h
  unfold reprFU at ef
  split at ef
  · split at ef
    · rename_i ok
      cases ef
      obtain ⟨v, rfl, hv⟩ := da1 hd
      have hv' := hv
      cases hv' with
      | lst h1 d1 =>
        rw [Vals.ref1 rx]
        exact repr_refU hm hg hu I sf hv ok k
    · cases ef
  · split at ef
    · rename_i ok
      cases ef
      obtain ⟨v, rfl, hv⟩ := da1 hd
      have e : ∃ a, v = .ref a := by cases hv <;> exact ⟨_, rfl⟩
      obtain ⟨a, rfl⟩ := e
      rw [Vals.ref1 rx]
      exact repr_refU hm hg hu I sf hv ok k
    · cases ef
  · cases ef
end
section
variable {P : Program} {w : World} {K : PySem.W.Frag} {mg mb : Str → Option Value}
theorem law_bodyM {k : Nat} {f a : Addr} {fd : FuncData} {st : Stmt} {N : List Str} {g : Sd} {s₁ : Shared} {vs : List Value} {ns : List Int}
    (Fn : Fun K "law" "law" st f fd) (S : FnScope N ["script"] (defScope st)) (KX : K.In s₁.heap) (hns : s₁.heap.Ns mainGlobals mg) (hb : s₁.heap.Ns builtinsNs mb) (hbb : ∀ x : Str, x ≠ "__name__" → mb x = bootBuiltins x) (hlim : s₁.heap.NoLimit) (hmod : ∃ mm, s₁.heap.Ns sysModules mm) (hg : s₁.gens = #[])
    (ha : s₁.heap.get? a = some { cls := .type "list", data := .seq vs.toArray }) (hi : IntsAre vs ns) (hl : ns.length ≤ 63) (hr : Room (k + 1) callerA) (hbind : ∀ (s : Shared) (u : Value), BindsTo s fd ⟨[u], []⟩ [("script", u)])
    (body : ∀ (base : Heap) (cdv : Value) (s : Shared) (H : Hp) (E : XK), K.In base → base.Ns mainGlobals mg → (∃ mm, base.Ns sysModules mm) → DSs (cxOf CX0 P w K mg base N "law" (defScope st) f cdv callerA [] s H E).nox (defBody st) g)
    (ok : runV N.length g [.list (ns.map PyData.int)] = some (.bool true)) :
    codeAny (model P w) callerA (.call (.ref f) ⟨[.ref a], []⟩) (fun r s' => r = .ok (.ret (.bool true)) ∧ OldK s₁.heap s'.heap ∧ s'.os = s₁.os ∧ AllBare s'.gens) s₁ := by
  obtain ⟨H, hO, hS, hok, hA, hK⟩ := script_st (P := P) (w := w) KX ha hi (Nat.le_trans hl (by decide))
  have base_of : ∀ {b : Addr} {o : Obj}, s₁.heap.get? b = some o → H b = none → (hidT s₁.heap H).get? b = some o := fun e n => hidT_get e n
  have noA : ∀ {b : Addr} {o : Obj} {es : Array DictEntry} {ep : Nat}, s₁.heap.get? b = some o → o.data = .dict es ep → H b = none := fun {b o es ep} e d => by
    by_cases q : H b = none
    · exact q
    · have e' := hA b q
      subst e'
      rw [ha] at e
      cases e
      cases d
  have nsK : ∀ {b : Addr} {m : Str → Option Value}, s₁.heap.Ns b m → (hidT s₁.heap H).Ns b m := fun {b m} ⟨o, es, ep, e, d, r⟩ => ⟨o, es, ep, base_of e (noA e d), d, r⟩
  have hKb : K.In (hidT s₁.heap H) := fun b o e => base_of (KX b o e) (by
    by_cases q : H b = none
    · exact q
    · have e' := hA b q
      subst e'
      rw [hK q] at e
      cases e)
  have hM : Mod K mg (hidT s₁.heap H) := ⟨hKb, nsK hns, ⟨mb, nsK hb, hbb⟩, let ⟨mc, h1, h2⟩ := hlim; ⟨mc, nsK h1, h2⟩⟩
  have e0 : Env0 P w K mg (hidT s₁.heap H) callerA [] s₁ H := ⟨rfl, hM, fun b o e => of_hidT e, Nat.le_of_eq (hidT_size _ _), trivial, fun b hb => absurd (show b ∈ ([] : List Addr) from hb) (by simp), hok, .of_eq hg⟩
  obtain ⟨oc, od, kV, doc, pm, an, cdv, ct, osl, rfl, lk, hcd⟩ := Fn.ex
  have hkind : ∀ y ∈ ([("script" : Str)] : List Str).zip [Value.ref a], (defScope st).names.lookup y.1 = some .local ∨ ((defScope st).names.lookup y.1 = some .cell ∧ ((cellsFrom (s₁.heap.objs.size + 1) (defScope st).names []).lookup y.1).isSome = true) := fun ⟨n, v⟩ hy => by
    rcases S.par n (List.of_mem_zip hy).1 with q | q
    · exact .inl q
    · exact .inr ⟨q, PySem.W.cellsFrom_some _ _ _ (.inl q)⟩
  have hbody := body (hidT s₁.heap H) cdv s₁ H (fun _ _ _ => False) hKb (nsK hns) (let ⟨mm, h⟩ := hmod; ⟨mm, nsK h⟩)
  have q0 : tDS (Kx.mk K P w) g { nx := fun _ _ => False, rt := fun v _ => v = V.bl true } (L2.start N [.ref a]) H := by
    obtain ⟨⟨fl, ρ'⟩, e1, e2⟩ := bind_some ok
    refine ⟨H, envV N.length [.list (ns.map PyData.int)], fl, ρ', st_vals (Same.refl H) (.cons (.lst hS (da_ints ns)) .nil), e1, fun σ' F' H' p s' => ?_⟩
    cases fl with
    | nx => cases e2
    | ret d =>
      cases e2
      exact fun v rv => by
        cases rv
        rfl
    | rof d => cases e2
    | brk => cases e2
    | cnt => cases e2
  refine codeAny_mono (R := CR CX0 [] P w H s₁ (fun v _ => v = .bl true) fun _ _ _ => False) ?_ fun r s' h => ?_
  · refine codeAny_call_function hr.depth (KX _ _ lk) rfl S.co S.gen rfl (PySem.W.codeRec_of KX hcd) (hbind s₁ (.ref a) _ _ _ _ ?_)
    refine wpAny_newFunctionEnv_cells S.kind hkind fun env he s1 x => ?_
    subst he
    refine ⟨hlim.keeps x.toInCall.keep, codeAny_func ?_⟩
    have I := inv_start (CX := CX0) (E := fun _ _ _ => False) (us := [.ref a]) (vs := [.ref a]) S hr.hd e0 rfl (.cons rfl .nil) x
    refine wpAny_mono (hbody.nox.run [] s1 (L2.start N [.ref a]) H _ I q0) (fun fl s' hs => ?_) fun e s' hs => hs
    cases fl with
    | next =>
      obtain ⟨_, _, _, q⟩ := hs
      exact q.elim
    | brk =>
      obtain ⟨_, _, _, q⟩ := hs
      exact False.elim q
    | cont =>
      obtain ⟨_, _, _, q⟩ := hs
      exact False.elim q
    | ret u =>
      obtain ⟨v, σ', H', J, rv, q⟩ := hs
      exact ⟨v, H', J.os, J.bare, J.base, J.hok, rv, q⟩
  · cases r with
    | error e => exact (show False from h).elim
    | ok fl =>
      cases fl with
      | next => exact False.elim h
      | brk => exact False.elim h
      | cont => exact False.elim h
      | ret u =>
        obtain ⟨v, H', os, bare, un, hok', rv, q⟩ := h
        have q' : v = .bl true := q
        subst q'
        obtain rfl : u = Value.bool true := rv
        refine ⟨rfl, OldK.of_keep fun b o e => ?_, os, bare⟩
        by_cases z : H b = none
        · exact un.keep b o e z (by intro y; exact absurd (show b ∈ ([] : List Addr) from y) (by simp)) (by simp)
        · rcases hO b with y | ⟨ob, xs, y⟩
          · exact absurd y z
          · have z2 := un.frzs b ob _ y
            obtain ⟨e1, _⟩ := hok b _ y
            obtain ⟨e2, _⟩ := hok' b _ z2
            rw [e] at e1
            cases e1
            exact e2
/-- the last row: a law whose own body is read where nothing is being shown -/
theorem walk_bodyM {l : PySem.W.OpenLaw} {k : Nat} {q : Program} {loose : List Str} {XP : (Str → Option Value) → Heap → Prop} {YP : World → Heap → Prop} {d : DefRec} {K : Params → PySem.W.Frag} {st : Stmt} {N : List Str} {g : Sd}
    (hi : importsNone q = true) (hn : l.most = some 63) (hdf : d.params.defaults = []) (hr : Room (k + 1) callerA) (hY : ∀ (w : World) (h : Heap), YP w h → (K w.params).In h) (S : FnScope N ["script"] (defScope st))
    (F : ∀ (w : World) (mg : Str → Option Value) (fa : Addr) (h : Heap), (K w.params).In h → h.Ns mainGlobals mg → mg d.name = some (.ref fa) → ∃ fd : FuncData, Fun (K w.params) "law" "law" st fa fd ∧ (∀ (s : Shared) (u : Value), BindsTo s fd ⟨[u], []⟩ [("script", u)]) ∧
      ∀ (base : Heap) (cdv : Value) (s : Shared) (H : Hp) (E : XK), (K w.params).In base → base.Ns mainGlobals mg → (∃ mm, base.Ns sysModules mm) → DSs (cxOf CX0 l.prog w (K w.params) mg base N "law" (defScope st) fa cdv callerA [] s H E).nox (defBody st) g)
    (ok : ∀ ns : List Int, ns.length ≤ 63 → runV N.length g [.list (ns.map PyData.int)] = some (.bool true)) : PySem.W.WalkO q loose XP YP l.row.toRowW d [] (fun f vs => PySem.call f vs) := by
  refine Att.attach_call hn hdf fun w s₀ s₁ mg mb fa o pm cd doc a vs ns G Y ho hd hcd hmg hobj hints hlen hg => ?_
  have KX := hY w _ Y
  obtain ⟨fd, hF, hb, hB⟩ := F w mg fa _ KX G.T.g hmg
  exact law_bodyM hF S KX G.T.g G.T.b G.T.builtins G.T.nolimit (let ⟨mm, h, _⟩ := (G.T.seer hi).mods; ⟨mm, h⟩) hg hobj hints hlen hr hb hB (ok ns hlen)
end
end Dn
namespace Dn
open PySem L2
end Dn
set_option maxHeartbeats 2000000
namespace Tw
open PySem PySem.W PySem.Calls PyProof.Rows PySem.HandSPX
def iA (p1 p2 : Pos) : Arguments := { posonlyargs := [], args := [{ arg := "self", annotation := none, pos := p1 }, { arg := "message", annotation := none, pos := p2 }], vararg := none, kwonlyargs := [], kw_defaults := [], kwarg := none, defaults := [] }
def iB (q0 q1 q2 q3 q4 q5 r1 r2 r3 r4 : Pos) : List Stmt := [.Expr (.Call (.Attribute (.Call (.Name "super" q0) [] [] q1) "__init__" q2) [.Name "message" q3] [] q4) q5, .Assign [.Attribute (.Name "self" r1) "message" r2] (.Name "message" r3) r4]
def iS : Scope := { kind := .function, names := [(PySem.Str.ofString "self", .local), (PySem.Str.ofString "message", .local), (PySem.Str.ofString "__class__", .free), (PySem.Str.ofString "super", .globalImplicit)], isGenerator := false, isCoroutine := false, more := [] }
/-- what the written part says of the class n, at C, its base at T (whose __init__ is at fI) -/
structure TdTxt (P : Program) (K : Frag) (mg : Str → Option Value) (n : Str) (C T fI : Addr) : Prop where
  gC : mg n = some (.ref C)
  cls : ∃ nm q N bs bm sn sub ab col dd k0 k1 k2 k3 k5, K.lookup C = some (excClassObj nm q C N bs bm true sn sub ab col dd k0 k1 k2 k3 k5 "ValueError.__new__") ∧ refsVE bm = true
  sa : findIn K (.ref C) "__setattr__" = some (some (.builtin "object.__setattr__"))
  ga : findIn K (.ref C) "__getattribute__" = some (some (.builtin "BaseException.__getattribute__"))
  gg : findIn K (.ref C) "__getattr__" = some none
  noN : findIn K (.ref C) "message" = some none
  iC : findIn K (.ref C) "__init__" = some (some (.ref fI))
  tC : typeIn K (.ref fI) = some (.type "function")
  kC : keepIn K (.ref C) = true
  exC : subIn K (.ref C) (.type "BaseException") = some true
  veC : subIn K (.ref C) (.type "ValueError") = some true
  tyC : typeIn K (.ref C) = some (.type "type")
  hdC : hasDictIn K C = true
  isC : isClsIn K C = true
  caC : findIn K (.ref C) "__class__" = some (some (.builtin "object.__class__"))
  caN : specialIn K (.builtin "object.__class__") "__get__" = some (some (.builtin "getset_descriptor.__get__"))
  caT : takesIn K (.builtin "object.__class__") = some true
  caM : mroIn K C (.type "object") = some true
  fn : ∃ (oc : Value) (od : Option Addr) (doc pm : Value) (an : Option Addr) (cda : Addr) (ct : Value) (cc : Addr) (osl : Array (Option Value)) (p1 p2 q0 q1 q2 q3 q4 q5 r1 r2 r3 r4 : Pos),
    K.lookup fI = some ⟨oc, od, .func (ksFn "__init__" "TideweirError.__init__" (iA p1 p2) (iB q0 q1 q2 q3 q4 q5 r1 r2 r3 r4) iS .none .none doc pm an (.ref cda) ct cc), osl⟩ ∧ (q2.endLine == q4.line) = true ∧ codeIn K (.ref cda) "TideweirError.__init__" = true ∧
    (∃ ccl cdd vs ccs file tf, K.lookup cda = some ⟨ccl, cdd, .fields vs, ccs⟩ ∧ vs[2]? = some (.str file tf) ∧ ((P.main.file : Str) == file) = true) ∧
    ∃ cl cld csl, K.lookup cc = some ⟨cl, cld, .cell (some (.ref T)), csl⟩
  cT : ∃ cd, clsIn K T = some cd
  sT : mroIn K C (.ref T) = some true
  nsu : mg "super" = none
  op : nsIn K cStatics "thirdparty.any" = some none
  ksu : ks_superIn K C T "__init__" = some (some (.builtin "ValueError.__init__"))
  top : (P.main.scope.names.lookup ("super" : Str)).isSome = false
theorem one_size (v : Value) : [v].length ≤ sizeLine := by
  rw [sizeLine_eq]
  exact (by decide : 1 ≤ 16777216)
/-- what __init__ leaves of a fresh exception at x -/
structure InitEnd (h h' : Heap) (x C dx : Addr) (v : Value) : Prop where
  keep : ∀ b o, b ≠ x → h.get? b = some o → h'.get? b = some o
  obj : ∃ t1 : Addr, h'.get? x = some { cls := .ref C, dict := some dx, data := .fields #[.ref t1, .none, .none, .none, .bool false, .none] }
  dbig : h.objs.size ≤ dx
  dne : dx ≠ x
  ns : h'.Ns1 dx (fun y => if y = "message" then some v else none)
structure OwnMade (h h' : Heap) (e C d : Addr) (v : Value) : Prop where
  keep : ∀ b o, h.get? b = some o → h'.get? b = some o
  new : h.objs.size ≤ e
  obj : ∃ oe vs, h'.get? e = some oe ∧ oe.cls = .ref C ∧ oe.dict = some d ∧ oe.data = .fields vs ∧ vs[1]? = some .none
  dbig : h.objs.size ≤ d
  dne : d ≠ e
  ns : h'.Ns1 d (fun y => if y = "message" then some v else none)
section
variable {prog : Program} {w : World} {A : Around} {E : Value → Shared → Prop} {R : Result → Shared → Prop} {s : Shared} {K : Frag} {mg : Str → Option Value} {n : Str} {C Tc fI : Addr}
theorem wpAt_ldL {c : Code} {M : Model} {env : Env} {m : Str → Option Value} {x : Str} {pos : Pos} {v : Value} {Q : Value → Shared → Prop} {L : Addr} (hn : s.heap.Ns L m) (hL : env.locals = L) (hv : m x = some v) (h : Q v s)
    (hk : env.scope.kind = .function) (hl : env.kindOf x = some .local) (hd : (x == ("__debug__" : Str)) = false) : wpAny M A (eval (.Name x pos) env) Q E s := by
  subst hL
  exact wpAny_Name (wpAny_loadName_local hk hl hn hv h) hd
theorem eval_mc {o : Expr} {name : Str} {q2 q4 : Pos} {a : Expr} {env : Env} (h : (q2.endLine == q4.line) = true) (hf : methodCallForm 1 (backTo q4 (starEach [a] env)) [] = true) : eval (.Call (.Attribute o name q2) [a] [] q4) env = (do
    let ov ← attributeBase o name env (eval o env)
    standAt q2.atName
    let (f, first) ← holding [ov] (getMethod ov name (do return (← importBound o env).getD true))
    callWith q4 f first (backTo q4 (starEach [a] env)) []) := by
  show (attributeBase o name env (eval o env) >>= fun ov => standAt q2.atName >>= fun _ => methodCall o name q2 q4 env ov 1 (backTo q4 (starEach [a] env)) []) = _
  refine congrArg (bind _) (funext fun ov => congrArg (bind _) (funext fun _ => ?_))
  unfold methodCall
  rw [hf]
  have hp : methodCallPos true o env q2 q4 = pure q4 := by
    unfold methodCallPos
    rw [if_pos (by rw [h]; rfl)]
  rw [hp]
  rfl
/-- ValueError.__init__ bound to x, called -/
theorem call_mw {hp : Heap} {g : Array GenState} {d : Drawn} {tk : Nat} {os : OsState} {u x t0 : Addr} {v : Value} {nm q : Str} {N : Addr} {bs bm : List Value} {sn : List Str} {sub : List Value} {ab : Bool} {col : Option Bool} {dd : Option Addr} {k0 k1 k2 k3 k5 : Option Value} {Q : Value → Shared → Prop}
    (hC : hp.get? C = some (excClassObj nm q C N bs bm true sn sub ab col dd k0 k1 k2 k3 k5 "ValueError.__new__")) (hu : hp.get? u = some (kxs_mw "ValueError.__init__" x)) (hx : hp.get? x = some (excO C t0))
    (h : ∀ h' t1, (∀ b o, b ≠ x → hp.get? b = some o → h'.get? b = some o) → h'.get? x = some (excO C t1) → Q .none ⟨h', g, d, tk, os⟩) : wpAny (model prog w) A (call (.ref u) [v]) Q E ⟨hp, g, d, tk, os⟩ := by
  refine wpAny_call (codeAny_of_tree ?_)
  show wpAny _ A.in1 (callAny (.ref u) ⟨[v], []⟩) _ _ _
  simp only [callAny]
  refine wpAny_bind (wpAny_load hu ?_)
  simp only [kxs_mw, show (Value.type "method-wrapper" == Value.type "method" || Value.type "method-wrapper" == Value.type "builtin_function_or_method" || Value.type "method-wrapper" == Value.type "method-wrapper") = true by decide, if_true]
  refine KFB.if_so (by decide) ?_
  refine wpAny_bind (ESX.check_bound F.excBase_ValueError hC hx rfl ?_)
  refine wpAny_bind (wpAny_pure (wpAny_pure ?_))
  refine ⟨plainId_quiet F.excBase_ValueError.init.plain _, codeAny_builtin F.excBase_ValueError.initEntry ?_⟩
  exact exc_init_tree (cls := .ref C) (t0 := t0) (dv := none) (c2 := .none) (c3 := .none) (b4 := .bool false) hx (one_size v) fun h' k e _ => h h' hp.objs.size k e
theorem td_init (T : TdTxt prog K mg n C Tc fI) {x t0 : Addr} {v : Value} (X : K.In s.heap) (hg : s.heap.Ns mainGlobals mg) (hb : ∃ mb, s.heap.Ns builtinsNs mb ∧ ∀ x : Str, x ≠ "__name__" → mb x = bootBuiltins x) (hlim : s.heap.NoLimit)
    (hx : s.heap.get? x = some (excO C t0)) (hnx : K.lookup x = none) (hroom : A.depth < recursionLimit) (hq : ∀ h' tk dx, InitEnd s.heap h' x C dx v → R (.ok (.ret .none)) { s with heap := h', toks := tk }) :
    codeAny (model prog w) A (.call (.ref fI) ⟨[.ref x, v], []⟩) R s := by
  obtain ⟨oc, od, doc, pm, an, cda, ct, cc, osl, p1, p2, q0, q1, q2, q3, q4, q5, r1, r2, r3, r4, ho, hql, hcd, ⟨ccl, cdd, vs, ccs, file, tf, hcode, hvs, hfile⟩, cl, cld, csl, hcell⟩ := T.fn
  obtain ⟨nm, q, N, bs, bm, sn, sub, ab, col, dd, k0, k1, k2, k3, k5, hC, hbm⟩ := T.cls
  obtain ⟨cdT, hcT⟩ := T.cT
  obtain ⟨mb, hb1, hb2⟩ := hb
  have hcl : clsIn K C = some { name := nm, bases := bs, mro := .ref C :: bm, ns := N, qualname := q, hasDict := true, slotNames := sn, subclasses := sub, abstract := ab, collection := col, hasDel := false } := by unfold clsIn; rw [hC] <;> rfl
  have hxC : x ≠ C := fun z => by rw [z, hC] at hnx; cases hnx
  have hal : alongIn K "__init__" (((.ref C :: bm : List Value).dropWhile (· != .ref Tc)).drop 1) = some (some (.builtin "ValueError.__init__")) := by
    have z := T.ksu
    unfold ks_superIn at z
    rw [hcl] at z
    exact z
  have hD2 : ∃ oD, K.lookup Tc = some oD ∧ oD.data = .cls cdT := by
    unfold clsIn at hcT
    split at hcT
    · rename_i c d cd' sl hoo
      cases hcT
      exact ⟨_, hoo, rfl⟩
    · cases hcT
  obtain ⟨oD, hD1, hD2⟩ := hD2
  obtain ⟨hp, g, d, t, os⟩ := s
  refine ks_codeAny_call_defAt (binds := [("self", .ref x), ("message", v)]) hroom (X _ _ ho) rfl hlim (codeRec_of X hcd) rfl (BindsTo.of_eq (by first | rfl | with_unfolding_all rfl)) (show ∀ x ∈ iS.names, x.2 ≠ .cell by decide) (show ∀ y ∈ ([(("self" : Str), Value.ref x), ("message", v)] : List (Str × Value)), iS.names.lookup y.1 = some .local from locs rfl) (fun h₁ hns k => ?_) rfl rfl rfl
  have X₁ : K.In h₁ := X.keeps k
  have hx₁ := k _ _ hx
  generalize hL : hp.objs.size = L at hns ⊢
  show _root_.PySem.wpAt (model prog w) (A.deeper (ksEnv "TideweirError.__init__" iS L fI (.ref cda) cc)) (.func (iB q0 q1 q2 q3 q4 q5 r1 r2 r3 r4) (ksEnv "TideweirError.__init__" iS L fI (.ref cda) cc)) (execs (iB q0 q1 q2 q3 q4 q5 r1 r2 r3 r4) (ksEnv "TideweirError.__init__" iS L fI (.ref cda) cc)) _ _ _
  refine ks_wpAt_execs_cons (ks_wpAt_Expr_any ?_)
  refine ks_wpAt_MethodCall ?_ (eval_mc hql rfl)
  refine ks_wpAt_super_base (of := ⟨oc, od, .func (ksFn "__init__" "TideweirError.__init__" (iA p1 p2) (iB q0 q1 q2 q3 q4 q5 r1 r2 r3 r4) iS .none .none doc pm an (.ref cda) ct cc), osl⟩) rfl rfl (by decide) rfl (X₁ _ _ ho) rfl rfl rfl (X₁ _ _ hcode) rfl hvs hfile T.top ?_
  refine ks_loadName_global rfl rfl (loadGlobal_builtin (hg.keeps k) T.nsu (hb1.keeps k) ((hb2 _ (by decide)).trans (by first | exact PyProof.Rows.Boot.«super» | boot_by_name | rfl | kernel_rfl)) ⟨rfl, ?_⟩)
  refine wpAny_loadName_free rfl rfl rfl ⟨_, X₁ _ _ hcell, rfl⟩ ?_
  refine wpAny_loadName_local rfl rfl hns (by first | rfl | with_unfolding_all rfl | kernel_rfl) ?_
  refine ks_wpAny_isType_cls (X₁ _ _ hD1) hD2 ⟨rfl, ?_⟩
  refine ks_wpAny_call_super (X₁ _ _ hD1) hD2 hx₁ rfl (fun c e => by cases e) (looks_mroIn X₁ T.sT) (fun h₂ e₂ k₂ => ?_)
  have X₂ : K.In h₂ := X₁.keeps k₂
  have hx₂ := k₂ _ _ hx₁
  have hns₂ := hns.keeps k₂
  have hI : Looks (model prog w) h₂ (isInstance (.ref x) (.type "ValueError")) true := (InstAt.type (M := model prog w) (h := h₂) (x := x) (ox := excO C t0) (C := C) (od := none) ⟨hx₂, rfl, rfl, trivial⟩).andThen (looks_subIn X₂ T.veC)
  refine kxs_getMethod kxs_ValueError e₂ (looks_opaque X₂ T.op) (l₀ := .ref C :: bm) (fun A Q E s k q => wpAny_bind ((looks_clsIn X₂ hcl) A _ E s k (wpAny_pure q))) rfl X₂ hal hI hxC (by decide) ?_
  generalize hu : h₂.objs.size = u
  have kp : ∀ b o, h₂.get? b = some o → (h₂.push (kxs_mw "ValueError.__init__" x)).get? b = some o := fun b o e => Heap.get?_push_of_some _ e
  have hmu : (h₂.push (kxs_mw "ValueError.__init__" x)).get? u = some (kxs_mw "ValueError.__init__" x) := by rw [← hu]; exact Heap.get?_push_at rfl rfl
  generalize hh₃ : h₂.push (kxs_mw "ValueError.__init__" x) = h₃ at kp hmu ⊢
  have X₃ : K.In h₃ := X₂.keeps kp
  refine kxs_callWith (i := "ValueError.__init__") (x := x) rfl (evalArgs_plain ?_)
  refine Calls.spliced_cons (wpAt_ldL (c := .call .none ⟨[], []⟩) (hns₂.keeps kp) rfl (by first | rfl | with_unfolding_all rfl | kernel_rfl) (Calls.spliced_nil ⟨hmu, ?_⟩) rfl rfl (by decide))
  refine call_mw (X₃ _ _ hC) hmu (kp _ _ hx₂) fun h₄ t1 k₄ hx₄ => ?_
  have hxL : x ≠ L := by rw [← hL]; exact Nat.ne_of_lt (Heap.lt_size hx)
  have X₄ : K.In h₄ := fun a o e => k₄ a o (fun z => by rw [z, hnx] at e; cases e) (X₃ a o e)
  have hns₄ : h₄.Ns L (fun y => [(("self" : Str), Value.ref x), ("message", v)].reverse.lookup y) := by
    obtain ⟨oL, es, ep, hoL, r⟩ := (hns₂.keeps kp)
    exact ⟨oL, es, ep, k₄ _ _ (Ne.symm hxL) hoL, r⟩
  show _root_.PySem.wpAt _ _ _ (execs _ _) _ _ _
  refine ks_wpAt_execs_cons (ks_wpAt_Assign_Attr ?_ rfl)
  refine _root_.PySem.wpAt_of_wpAny ?_
  refine wpAt_ldL (c := .call .none ⟨[], []⟩) (env := ksEnv "TideweirError.__init__" iS L fI (.ref cda) cc) (x := "message") (v := v) (L := L) hns₄ rfl (by first | rfl | with_unfolding_all rfl | kernel_rfl) ?_ rfl rfl (by decide)
  refine wpAt_ldL (c := .call .none ⟨[], []⟩) (env := ksEnv "TideweirError.__init__" iS L fI (.ref cda) cc) (x := "self") (v := .ref x) (L := L) hns₄ rfl (by first | rfl | with_unfolding_all rfl | kernel_rfl) ?_ rfl rfl (by decide)
  refine set_plain X₄ (ox := excO C t1) (od := none) ⟨hx₄, rfl, rfl, trivial⟩ T.sa ?_
  refine exc_osa X₄ hx₄ hcl (show refsVE (.ref C :: bm) = true from hbm) rfl T.noN (fun h₅ tk₅ dx k₅ dn dne hx₅ hn₅ => ?_)
  show _root_.PySem.wpAt _ _ _ (execs _ _) _ _ _
  refine _root_.PySem.wpAt_of_wpAny (wpAny_execs_nil (hq h₅ tk₅ dx ⟨fun b o hb e => k₅ b o hb (k₄ b o hb (kp b o (k₂ b o (k b o e)))), ⟨_, hx₅⟩, ?_, dne, hn₅⟩))
  have z1 : hp.objs.size < h₄.objs.size := by rw [hL]; exact hns₄.lt
  exact Nat.le_of_lt (Nat.lt_of_lt_of_le z1 dn)
theorem td_made (T : TdTxt prog K mg n C Tc fI) {v : Value} (X : K.In s.heap) (hg : s.heap.Ns mainGlobals mg) (hb : ∃ mb, s.heap.Ns builtinsNs mb ∧ ∀ x : Str, x ≠ "__name__" → mb x = bootBuiltins x) (hlim : s.heap.NoLimit) (hroom : A.depth + 1 < recursionLimit)
    (hq : ∀ h' tk e d, OwnMade s.heap h' e C d v → R (.ok (.ret (.ref e))) { s with heap := h', toks := tk }) :
    codeAny (model prog w) A (.call (.ref C) ⟨[v], []⟩) R s := by
  obtain ⟨nm, q, N, bs, bm, sn, sub, ab, col, dd, k0, k1, k2, k3, k5, hC, hbm⟩ := T.cls
  obtain ⟨hp, g, dr, tk, os⟩ := s
  have k : ∀ b o, hp.get? b = some o → ((hp.push (kdv_tup [v])).push (excO C hp.objs.size)).get? b = some o := fun b o e => Heap.get?_push_of_some _ (Heap.get?_push_of_some _ e)
  have hget : ((hp.push (kdv_tup [v])).push (excO C hp.objs.size)).get? (hp.objs.size + 1) = some (excO C hp.objs.size) := by heap_get
  have hnx : K.lookup (hp.objs.size + 1) = none := by
    cases e : K.lookup (hp.objs.size + 1) with
    | none => rfl
    | some o =>
      have z : hp.get? (hp.objs.size + 1) = some o := X _ _ e
      exact absurd (Nat.lt_of_succ_lt (Heap.lt_size z)) (Nat.lt_irrefl _)
  obtain ⟨mb, hb1, hb2⟩ := hb
  refine call_own F.excBase_ValueError (fun X => refsVE_contains X bm hbm) (X _ _ hC) (looks_findIn X T.iC) (fun self => bind_fn X self T.tC) (one_size v) ?_
  refine td_init (s := ⟨(hp.push (kdv_tup [v])).push (excO C hp.objs.size), g, dr, tk, os⟩) T (X.keeps k) (hg.keeps k) ⟨mb, hb1.keeps k, hb2⟩ (hlim.keeps k) hget hnx ?_ fun h' tk' dx ⟨k', hx, dn, dne, hns⟩ => ?_
  · show A.depth + 1 < recursionLimit
    exact hroom
  · have old : ∀ b o, hp.get? b = some o → h'.get? b = some o := fun b o e => k' b o (Nat.ne_of_lt (Nat.lt_succ_of_lt (Heap.lt_size e))) (k b o e)
    have z : hp.objs.size + 1 + 1 ≤ dx := by
      first
        | (simpa only [Heap.size_push] using dn)
        | exact dn
        | (have q := dn; rw [Heap.size_push, Heap.size_push] at q; exact q)
    obtain ⟨t1, hx⟩ := hx
    exact ⟨rfl, hq h' tk' (hp.objs.size + 1) dx ⟨old, Nat.le_succ _, ⟨_, _, hx, rfl, rfl, rfl, rfl⟩, Nat.le_trans (Nat.le_trans (Nat.le_succ _) (Nat.le_succ _)) z, dne, hns⟩⟩
end
end Tw
namespace L2
open PySem PySem.Spec PyProof.Rows
theorem relO_td {v : V} {v' : Value} (r : RelV v v') (f : Str) : RelO (List.lookup f [(("message" : Str), v)]) (if f = "message" then some v' else none) := by
  by_cases hw : f = "message"
  · subst hw
    rw [if_pos rfl]
    have q : List.lookup ("message" : Str) [(("message" : Str), v)] = some v := by simp [List.lookup]
    rw [q]
    exact r
  · rw [if_neg hw]
    have qw : (f == ("message" : Str)) = false := by simpa using hw
    have q2 : List.lookup f [(("message" : Str), v)] = none := by simp [List.lookup, qw]
    rw [q2]
    trivial
section
variable {X : Cx} {C Tc fI : Addr} {n : Str}
/-- C(e) -/
def tMkTd (C : Addr) (ta : TA) : St → Hp → XK → Prop := fun σ H Q => ta σ H fun vs H1 => ∃ v, vs = [v] ∧ ∀ d, H1 d = none → Q (.ref C) (some d) (upd H1 d (.xd [(("message" : Str), v)]))
theorem pmk_td {a : Expr} {ta : TA} {p pos : Pos} {k : Nat} (T : Tw.TdTxt X.prog X.K X.mg n C Tc fI) (hr : Room k X.A) (ha : PA X [a] ta) (hg : Gl X n) (hdb : (n == ("__debug__" : Str)) = false := by decide)
    (he : starEach (a :: []) X.env = (false, eval a X.env) :: starEach [] X.env := by rfl) (hpl : (backTo pos (starEach [] X.env)).any (·.1) = false := by rfl) :
    PMk X (.Call (.Name n p) [a] [] pos) (tMkTd C ta) := by
  intro pins s σ H Q I h
  refine wpAny_Call_Name_kw (ld_glob I hg T.gC ?_ hdb)
  refine PySem.W.callWith_K (h₀ := X.base) I.ok.mod.kin T.kC (thn (ha.run pos pins s σ H _ I h) fun us s1 hh => ?_) he hpl
  obtain ⟨vs, H1, I1, r1, v, ev, q1⟩ := hh
  subst ev
  refine ⟨I1.kIn, ?_⟩
  cases r1 with
  | cons rv rn =>
    rename_i v' us'
    cases rn
    show wpAny _ _ (call (.ref C) [v']) _ _ _
    have hlim := I1.nolimit
    obtain ⟨mb, hb1, hb2⟩ := I1.ok.mod.blt
    have hgl := I1.ok.mod.glob.keeps I1.bk
    have hbl := hb1.keeps I1.bk
    obtain ⟨hp, g, dr, tk, os⟩ := s1
    refine wpAny_call (Tw.td_made T I1.kIn hgl ⟨mb, hbl, hb2⟩ hlim (by have := hr.dp; omega) fun h' tk' e d M => ?_)
    show MkP X pins σ Q (.ref e) ⟨h', g, dr, tk', os⟩
    obtain ⟨oe, fv, hoe, hc, hd, hdat, h1⟩ := M.obj
    have hns := M.ns
    obtain ⟨G', g1, g2⟩ := restrict h' fun b => decide (b ≠ e)
    have gk : ∀ b, b ≠ e → G'.get? b = h'.get? b := fun b hb => g1 b (decide_eq_true hb)
    have ge : G'.get? e = none := g2 e (by simp)
    have old : ∀ b o, hp.get? b = some o → G'.get? b = some o := fun b o q => (gk b (Nat.ne_of_lt (Nat.lt_of_lt_of_le (Heap.lt_size q) M.new))).trans (M.keep b o q)
    have ob : ObjOk X.prog X.w (upd H1 d (.xd [(("message" : Str), v)])) G' d (.xd [(("message" : Str), v)]) :=
      ⟨_, hns.at (fun o q => (gk d M.dne).trans q), fun f => relO_td rv f⟩
    have J : Inv X pins σ (upd H1 d (.xd [(("message" : Str), v)])) ⟨G', g, dr, tk', os⟩ := I1.laid (t' := tk') old M.dbig ob
    refine ⟨e, oe, fv, ⟨G', g, dr, tk', os⟩, _, .ref C, some d, rfl, J, fun b o q => ?_, ge, hoe, ⟨hc, hd⟩, hdat, h1, ?_, rfl, I1.bare, raises_own T.exC T.tyC, q1 d (I1.hok.fresh M.dbig)⟩
    · by_cases hb : b = e
      · have q' : G'.get? b = some o := q
        rw [hb, ge] at q'; cases q'
      · exact (gk b hb).symm.trans q
    · rw [upd_ne (Ne.symm M.dne)]
      exact I1.hok.fresh M.new
/-- e.message, e the exception that the suite holds (at a; its class C, its dict dd) -/
def tMsg (a : Addr) (dd : Addr) (te : TE) : TE := fun σ H Q => te σ H fun x H1 => x = .ref a ∧ ∃ v : V, H1 dd = some (.xd [(("message" : Str), v)]) ∧ Q v H1
theorem pe_msg {a dd : Addr} {oe : Obj} {pn : List (Addr × Obj)} {e : Expr} {te : TE} {pos : Pos} (T : Tw.TdTxt X.prog X.K X.mg n C Tc fI) (hz : Zc (.ref C) (some dd) oe) (hf : ∃ vs, oe.data = .fields vs) (he : PE (X.suite a ((a, oe) :: pn)) e te)
    (hb : attributeBase e "message" X.env (eval e X.env) = eval e X.env := by rfl) :
    PE (X.suite a ((a, oe) :: pn)) (.Attribute e "message" pos) (tMsg a dd te) := by
  refine ⟨fun pins s σ H Q I h => ?_⟩
  refine attr_of hb (thn (he.run pins s σ H _ I h) fun u s1 hh => ?_)
  obtain ⟨x, H1, I1, rx, ex, v, ea, q⟩ := hh
  subst ex
  obtain rfl : u = Value.ref a := rx
  obtain ⟨ha, _⟩ := I1.pin (a, oe) (List.mem_append_left _ List.mem_cons_self)
  obtain ⟨vs, hd⟩ := hf
  have hx : ObjOk X.prog X.w H1 s1.heap dd (.xd [(("message" : Str), v)]) := I1.hok dd _ ea
  obtain ⟨mA, hns, hr⟩ := hx
  obtain ⟨od, ho, hl⟩ := lookIn_ns hns
  have l : List.lookup ("message" : Str) [(("message" : Str), v)] = some v := by simp [List.lookup]
  obtain ⟨u, hu, ru⟩ := RelO.some_of (v := v) (o := mA "message") (by rw [← l]; exact hr "message")
  have J : PySem.W.InstAt s1.heap a oe C (some od) := ⟨ha, hz.1, by unfold PySem.W.notCls; rw [hd] <;> rfl, by rw [hz.2]; exact ho⟩
  exact HandSPX.exc_get I1.kIn J T.ga T.gg T.exC (PySem.W.findObj_own T.hdC T.noN rfl (by rw [hl, hu])) (handed_of ru) ⟨v, H1, I1.tok _, ru, q⟩
end
end L2
set_option maxHeartbeats 2000000
namespace Dn
open PySem PySem.Spec PyProof.Rows L2
/-- what is raised: the class by its name, the message -/
structure Xc where
  c : Str
  m : Str
abbrev Mx (α : Type) := Env → Option ((α ⊕ Xc) × Env)
def xOk {α : Type} (g : Md α) : Mx α := fun ρ => (g ρ).bind fun p => some (.inl p.1, p.2)
def xBind {α β : Type} (g : Mx α) (k : α → Mx β) : Mx β := fun ρ => (g ρ).bind fun p => match p.1 with
  | .inl a => k a p.2
  | .inr x => some (.inr x, p.2)
def xPure {α : Type} (o : Option α) : Mx α := fun ρ => o.bind fun a => some (.inl a, ρ)
def xLift {α : Type} (o : Option (α ⊕ Xc)) : Mx α := fun ρ => o.bind fun a => some (a, ρ)
abbrev xdM (m : Str) : HO := .xd [(("message" : Str), .str m)]
/-- what the wish W is told of x -/
def XcOk (mg : Str → Option Value) (W : WX) (x : Xc) (σ : L2.St) (H : Hp) : Prop := ∀ (C dd : Addr), mg x.c = some (.ref C) → H dd = some (xdM x.m) → W (.ref C) (some dd) σ H
section
variable (K : Kx) (mg : Str → Option Value) (W : WX)
def tX (g : Mx D) : TE := fun σ H Q => ∃ (F : Hp) (ρ : Env) (r : D ⊕ Xc) (ρ' : Env), St K F H σ ρ ∧ g ρ = some (r, ρ') ∧
  ∀ F' H', Stp F σ ρ H F' σ ρ' H' → St K F' H' σ ρ' → match r with
    | .inl d => ∀ v, Rp K F' v d → Q v H'
    | .inr x => XcOk mg W x σ H'
def tXA (g : Mx (List D)) : TA := fun σ H Q => ∃ (F : Hp) (ρ : Env) (r : List D ⊕ Xc) (ρ' : Env), St K F H σ ρ ∧ g ρ = some (r, ρ') ∧
  ∀ F' H', Stp F σ ρ H F' σ ρ' H' → St K F' H' σ ρ' → match r with
    | .inl ds => ∀ vs, RpAll K F' vs ds → Q vs H'
    | .inr x => XcOk mg W x σ H'
def tXT (g : Mx Bool) : TT := fun σ H Q => ∃ (F : Hp) (ρ : Env) (r : Bool ⊕ Xc) (ρ' : Env), St K F H σ ρ ∧ g ρ = some (r, ρ') ∧
  ∀ F' H', Stp F σ ρ H F' σ ρ' H' → St K F' H' σ ρ' → match r with
    | .inl b => Q b H'
    | .inr x => XcOk mg W x σ H'
/-- a statement: it may leave by an exception -/
abbrev Sx := Env → Option ((Fl ⊕ Xc) × Env)
def tXS (g : Sx) : TS := fun E σ H => ∃ (F : Hp) (ρ : Env) (r : Fl ⊕ Xc) (ρ' : Env), St K F H σ ρ ∧ g ρ = some (r, ρ') ∧
  ∀ σ' F' H', Stp F σ ρ H F' σ' ρ' H' → St K F' H' σ' ρ' → match r with
    | .inl f => FlOk K E H F' σ' H' f
    | .inr x => XcOk mg W x σ' H'
end
abbrev EX (X : Cx) (W : WX) (e : Expr) (g : Mx D) : Prop := PE X e (tX (cxK X) X.mg W g)
abbrev AX (X : Cx) (W : WX) (es : List Expr) (g : Mx (List D)) : Prop := PA X es (tXA (cxK X) X.mg W g)
abbrev TX (X : Cx) (W : WX) (e : Expr) (g : Mx Bool) : Prop := PT X e (tXT (cxK X) X.mg W g)
abbrev SX (X : Cx) (W : WX) (st : Stmt) (g : Sx) : Prop := PS X st (tXS (cxK X) X.mg W g)
abbrev SXs (X : Cx) (W : WX) (st : List Stmt) (g : Sx) : Prop := PSs X st (tXS (cxK X) X.mg W g)
section
variable {X : Cx} {W : WX} {e a b c : Expr} {es : List Expr} {pos p : Pos} {x : Str} {st : Stmt} {sts : List Stmt}
theorem ok_some {α : Type} {g : Md α} {ρ ρ' : Env} {r : α ⊕ Xc} (h : xOk g ρ = some (r, ρ')) : ∃ d, r = .inl d ∧ g ρ = some (d, ρ') := by
  obtain ⟨⟨d, ρ1⟩, e1, e2⟩ := bind_some h
  cases e2
  exact ⟨d, rfl, e1⟩
theorem xb_some {α β : Type} {g : Mx α} {k : α → Mx β} {ρ ρ' : Env} {r : β ⊕ Xc} (h : xBind g k ρ = some (r, ρ')) : (∃ d ρ1, g ρ = some (.inl d, ρ1) ∧ k d ρ1 = some (r, ρ')) ∨ ∃ x, g ρ = some (.inr x, ρ') ∧ r = .inr x := by
  obtain ⟨⟨d, ρ1⟩, e1, e2⟩ := bind_some h
  cases d with
  | inl d => exact .inl ⟨d, ρ1, e1, e2⟩
  | inr x =>
    cases e2
    exact .inr ⟨x, e1, rfl⟩
theorem xp_some {α : Type} {o : Option α} {ρ ρ' : Env} {r : α ⊕ Xc} (h : xPure o ρ = some (r, ρ')) : ∃ d, o = some d ∧ r = .inl d ∧ ρ' = ρ := by
  obtain ⟨d, e1, e2⟩ := bind_some h
  cases e2
  exact ⟨d, e1, rfl, rfl⟩
theorem xl_some {α : Type} {o : Option (α ⊕ Xc)} {ρ ρ' : Env} {r : α ⊕ Xc} (h : xLift o ρ = some (r, ρ')) : o = some r ∧ ρ' = ρ := by
  obtain ⟨d, e1, e2⟩ := bind_some h
  cases e2
  exact ⟨e1, rfl⟩
theorem ax_ok {g : Md (List D)} (h : DA X es g) : AX X W es (xOk g) := pa_imp h fun σ H Q q => by
  obtain ⟨F, ρ, r, ρ', s, eg, k⟩ := q
  obtain ⟨d, rfl, e2⟩ := ok_some eg
  exact ⟨F, ρ, d, ρ', s, e2, fun v F' H' p s' rv => k F' H' p s' v rv⟩
theorem tx_ok {g : Md Bool} (h : DT X e g) : TX X W e (xOk g) := pt_imp h fun σ H Q q => by
  obtain ⟨F, ρ, r, ρ', s, eg, k⟩ := q
  obtain ⟨d, rfl, e2⟩ := ok_some eg
  exact ⟨F, ρ, d, ρ', s, e2, fun F' H' p s' => k F' H' p s'⟩
theorem sx_ok {g : Sd} (h : DS X st g) : SX X W st (xOk g) := ps_imp h fun E σ H q => by
  obtain ⟨F, ρ, r, ρ', s, eg, k⟩ := q
  obtain ⟨d, rfl, e2⟩ := ok_some eg
  exact ⟨F, ρ, d, ρ', s, e2, fun σ' F' H' p s' => k σ' F' H' p s'⟩
def xCons (g : Mx D) (gs : Mx (List D)) : Mx (List D) := xBind g fun d => xBind gs fun ds => xPure (some (d :: ds))
/-- the promise of a def that may raise -/
def spX (K : Kx) (mg : Str → Option Value) (n : Nat) (f : List D → Option (D ⊕ Xc)) : Sp := fun vs H Q E => vs.length = n ∧ ∃ (F : Hp) (ds : List D) (r : D ⊕ Xc), Same F H ∧ RpAll K F vs ds ∧ f ds = some r ∧
  ∀ F' H', Grow F H F' H' → match r with
    | .inl d => ∀ v, Rp K F' v d → Q v H'
    | .inr x => ∀ (C dd : Addr), mg x.c = some (.ref C) → H' dd = some (xdM x.m) → E (.ref C) (some dd) H'
def xCall (f : List D → Option (D ⊕ Xc)) (gs : Mx (List D)) : Mx D := xBind gs fun ds => xLift (f ds)
def xApp (f : List D → Option D) (gs : Mx (List D)) : Mx D := xBind gs fun ds => xPure (f ds)
theorem ex_call {k n : Nat} {f : Addr} {fd : FuncData} {ps : List Str} {g : List D → Option (D ⊕ Xc)} {gs : Mx (List D)} (tk : Takes X W) (G : FnOk X.prog X.w X.K X.mg X.base (L2.CX X.prog X.w) k f fd ps (spX (cxK X) X.mg n g)) (hr : Room k X.A) (hg : Gl X x) (hm : X.mg x = some (.ref f)) (hk : PySem.W.keepIn X.K (.ref f) = true) (hb : Binds X.K fd ps [])
    (ha : AX X W (e :: es) gs) (hlen : ∀ ρ ds ρ', gs ρ = some (.inl ds, ρ') → ds.length = n)
    (hdb : (x == ("__debug__" : Str)) = false := by decide) (he : starEach (e :: es) X.env = (false, eval e X.env) :: starEach es X.env := by rfl) (hpl : (backTo pos (starEach es X.env)).any (·.1) = false := by rfl) : EX X W (.Call (.Name x p) (e :: es) [] pos) (xCall g gs) :=
  pe_imp (pe_callS (E := WE W) G hr hg hm hk hb (fun σ => passAt tk σ) ha hdb he hpl) fun σ H Q q => by
    obtain ⟨F, ρ, r, ρ', s, eg, k⟩ := q
    rcases xb_some eg with ⟨ds, ρ1, e1, eg1⟩ | ⟨x, e1, rfl⟩
    · obtain ⟨e2, rfl⟩ := xl_some eg1
      refine ⟨F, ρ, _, _, s, e1, fun F1 H1 p1 s1 vs r1 => ⟨by rw [da_len r1]; exact hlen _ _ _ e1, F1, ds, r, s1.sub, r1, e2, fun F3 H3 gr => ?_⟩⟩
      have z := k F3 H3 (p1.trans (gr.stp σ _)) (s1.grow gr)
      cases r with
      | inl d => exact z
      | inr x => exact z
    · exact ⟨F, ρ, _, _, s, e1, fun F1 H1 p1 s1 => k F1 H1 p1 s1⟩
theorem xlen_ok {gs : Md (List D)} {n : Nat} (h : ∀ ρ ds ρ', gs ρ = some (ds, ρ') → ds.length = n) : ∀ ρ ds ρ', xOk gs ρ = some (.inl ds, ρ') → ds.length = n := fun ρ ds ρ' h2 => by
  obtain ⟨d, e, e2⟩ := ok_some h2
  cases e
  exact h _ _ _ e2
def xBin (f : D → D → Option D) (ga gb : Mx D) : Mx D := xBind ga fun x => xBind gb fun y => xPure (f x y)
def xTst (g : Mx D) : Mx Bool := xBind g fun d => xPure (bOf d)
def xNot (g : Mx Bool) : Mx Bool := xBind g fun b => xPure (some !b)
def xSeq (s t : Sx) : Sx := fun ρ => (s ρ).bind fun p => match p.1 with
  | .inl .nx => t p.2
  | r => some (r, p.2)
theorem sxs_cons {g h : Sx} (h1 : SX X W st g) (h2 : SXs X W sts h) : SXs X W (st :: sts) (xSeq g h) := pss_imp (pss_cons h1 h2) fun E σ H q => by
  obtain ⟨F, ρ, r, ρ', s, eg, k⟩ := q
  obtain ⟨⟨f1, ρ1⟩, e1, eg1⟩ := bind_some eg
  refine ⟨F, ρ, f1, ρ1, s, e1, fun σ1 F1 H1 p1 s1 => ?_⟩
  cases f1 with
  | inr x =>
    cases eg1
    exact k σ1 F1 H1 p1 s1
  | inl f1 =>
    cases f1 with
    | nx =>
      refine ⟨F1, ρ1, r, ρ', s1, eg1, fun σ2 F2 H2 p2 s2 => ?_⟩
      have z := k σ2 F2 H2 (p1.trans p2) s2
      cases r with
      | inl f => exact fl_base z fun a n => p1.none n
      | inr x => exact z
    | ret d =>
      cases eg1
      exact k σ1 F1 H1 p1 s1
    | rof d =>
      cases eg1
      exact k σ1 F1 H1 p1 s1
    | brk =>
      cases eg1
      exact k σ1 F1 H1 p1 s1
    | cnt =>
      cases eg1
      exact k σ1 F1 H1 p1 s1
theorem sxs_one {g : Sx} (h1 : SX X W st g) : SXs X W [st] g := pss_one h1
def xIf (g : Mx Bool) (s t : Sx) : Sx := xBind g fun b => if b = true then s else t
theorem sx_if {g : Mx Bool} {s1 s2 : Sx} {as bs : List Stmt} (hc : TX X W c g) (ha : SXs X W as s1) (hb : SXs X W bs s2) : SX X W (.If c as bs pos) (xIf g s1 s2) := ps_imp (ps_if hc ha hb) fun E σ H q => by
  obtain ⟨F, ρ, r, ρ', s, eg, k⟩ := q
  rcases xb_some eg with ⟨b, ρ1, e1, eg1⟩ | ⟨x, e1, rfl⟩
  · refine ⟨F, ρ, _, ρ1, s, e1, fun F1 H1 p1 s1 => ?_⟩
    have fin : ∀ {g2 : Sx}, g2 ρ1 = some (r, ρ') → tXS (cxK X) X.mg W g2 E σ H1 := fun {g2} e2 => ⟨F1, ρ1, r, ρ', s1, e2, fun σ2 F2 H2 p2 s2 => by
      have z := k σ2 F2 H2 (p1.trans p2) s2
      cases r with
      | inl f => exact fl_base z fun a n => p1.none n
      | inr x => exact z⟩
    cases b with
    | true => exact fin eg1
    | false => exact fin eg1
  · exact ⟨F, ρ, _, _, s, e1, fun F1 H1 p1 s1 => k σ F1 H1 p1 s1⟩
def xRet (g : Mx D) : Sx := xBind g fun d => xPure (some (.ret d))
theorem sx_ret {g : Mx D} (h : EX X W e g) : SX X W (.Return (some e) pos) (xRet g) := ps_imp (ps_ret h) fun E σ H q => by
  obtain ⟨F, ρ, r, ρ', s, eg, k⟩ := q
  rcases xb_some eg with ⟨d, ρ1, e1, eg1⟩ | ⟨x, e1, rfl⟩
  · obtain ⟨z, e3, rfl, rfl⟩ := xp_some eg1
    cases e3
    exact ⟨F, ρ, _, _, s, e1, fun F1 H1 p1 s1 v rv => k σ F1 H1 p1 s1 v rv⟩
  · exact ⟨F, ρ, _, _, s, e1, fun F1 H1 p1 s1 => k σ F1 H1 p1 s1⟩
end
end Dn
set_option maxHeartbeats 2000000
namespace Dn
open PySem PySem.Spec PyProof.Rows L2
section
variable {X : Cx} {W : WX} {e a b c tg iter : Expr} {es : List Expr} {pos p : Pos} {x : Str} {st : Stmt} {sts : List Stmt}
def xDrop (g : Mx D) : Sx := xBind g fun _ => xPure (some .nx)
theorem sx_expr {g : Mx D} (h : EX X W e g) (hs : swapsWith e none pos.line X.env = pure false := by rfl) : SX X W (.Expr e pos) (xDrop g) := ps_imp (ps_expr h hs) fun E σ H q => by
  obtain ⟨F, ρ, r, ρ', s, eg, k⟩ := q
  rcases xb_some eg with ⟨d, ρ1, e1, eg1⟩ | ⟨x, e1, rfl⟩
  · obtain ⟨z, e3, rfl, rfl⟩ := xp_some eg1
    cases e3
    exact ⟨F, ρ, _, _, s, e1, fun F1 H1 p1 s1 v rv => k σ F1 H1 p1 s1⟩
  · exact ⟨F, ρ, _, _, s, e1, fun F1 H1 p1 s1 => k σ F1 H1 p1 s1⟩
def xSet (i : Nat) (g : Mx D) : Sx := xBind g fun d ρ => (setC i (.val d) ρ).bind fun r => some (.inl .nx, r)
def ownL : Option (Option Cell) → Option (Bool × List D)
  | some (some (.own b (.list ds))) => some (b, ds)
  | _ => none
theorem ownL_own {b : Bool} {ds : List D} : ownL (some (some (.own b (.list ds)))) = some (b, ds) := rfl
def xApd (i : Nat) (g : Mx D) : Sx := fun ρ => (ownL ρ[i]?).bind fun _ => xBind g (fun d ρ1 => (ownL ρ1[i]?).bind fun p => if p.2.length < 16777216 then some (.inl .nx, ρ1.set i (some (.own p.1 (.list (p.2 ++ [d]))))) else none) ρ
/-- raise n(e) -/
def xRaise (n : Str) (g : Md D) : Sx := fun ρ => (g ρ).bind fun p => match p.1 with
  | .str m => some (.inr ⟨n, m⟩, p.2)
  | _ => none
theorem sx_raise {n : Str} {C Tc fI : Addr} {g : Md D} {k : Nat} {pos2 : Pos} (hc : X.calm = true) (T : Tw.TdTxt X.prog X.K X.mg n C Tc fI) (hr : Room k X.A) (tk : Takes X W) (ha : DE X a g) (hg : Gl X n) (hdb : (n == ("__debug__" : Str)) = false := by decide)
    (he : starEach (a :: []) X.env = (false, eval a X.env) :: starEach [] X.env := by rfl) (hpl : (backTo pos (starEach [] X.env)).any (·.1) = false := by rfl) : SX X W (.Raise (some (.Call (.Name n p) [a] [] pos)) none pos2) (xRaise n g) :=
  ps_imp (ps_raise hc tk (pmk_td T hr (pa_cons ha pa_nil (by exact he)) hg hdb he hpl)) fun E σ H q => by
    obtain ⟨F, ρ, r, ρ', s, eg, k⟩ := q
    obtain ⟨⟨d, ρ1⟩, e1, eg1⟩ := bind_some eg
    cases d with
    | str m =>
      cases eg1
      refine ⟨F, ρ, _, _, s, e1, fun v F1 H1 p1 s1 r1 => ⟨v, rfl, fun dd hdd => ?_⟩⟩
      cases r1
      have gr : Grow F1 H1 F1 (upd H1 dd (xdM m)) := Grow.own s1.sub hdd
      -- the wish is told of this very object
      refine k σ F1 _ (p1.trans (gr.stp σ _)) (s1.grow gr) C dd T.gC upd_same
    | none => cases eg1
    | bool _ => cases eg1
    | int _ => cases eg1
    | list _ => cases eg1
    | tuple _ => cases eg1
    | dict _ => cases eg1
def forX (tg : D → Env → Option Env) (body : Sx) : List D → Sx
  | [] => fun ρ => some (.inl .nx, ρ)
  | d :: ds => fun ρ => (tg d ρ).bind fun ρ1 => (body ρ1).bind fun p => match p.1 with
    | .inl .nx => forX tg body ds p.2
    | .inl .cnt => forX tg body ds p.2
    | .inl .brk => some (.inl .nx, p.2)
    | .inl (.ret r) => some (.inl (.ret r), p.2)
    | .inl (.rof r) => some (.inl (.rof r), p.2)
    | .inr x => some (.inr x, p.2)
def xFor (gi : Md (List D)) (tg : D → Env → Option Env) (body : Sx) : Sx := fun ρ => (gi ρ).bind fun p => forX tg body p.1 p.2
theorem sx_for {gi : Md (List D)} {gt : D → Env → Option Env} {gb : Sx} {body : List Stmt} (hp : PassesOwn (model X.prog X.w) X.A X.env X.xe) (hc : X.calm = true) (hi : DI X tg iter gi) {is : List Nat} (hg : DG X tg is gt) (hb : SXs X W body gb) (hs : ∀ x, foldedSetIterable iter X.env x = pure x := by intro _; rfl) : SX X W (.For tg iter body [] pos) (xFor gi gt gb) :=
  ps_imp (ps_for hp hc hi hg hb hs) fun E σ H q => by
    obtain ⟨F, ρ, f, ρ', s, eg, k⟩ := q
    obtain ⟨⟨ds, ρ1⟩, e1, eg1⟩ := bind_some eg
    refine ⟨F, ρ, ds, ρ1, s, e1, fun J F1 H1 p1 s1 ok => ?_⟩
    refine ⟨fun i m σi Hi => ∃ Fi ρi, m = ds.length - i ∧ i ≤ ds.length ∧ Stp F σ ρ H Fi σi ρi Hi ∧ St (cxK X) Fi Hi σi ρi ∧ Same F1 Fi ∧ forX gt gb (ds.drop i) ρi = some (f, ρ'), ⟨ds.length, F1, ρ1, by simp, Nat.zero_le _, p1, s1, Same.refl _, by simpa using eg1⟩, ?_⟩
    rintro i m σi Hi ⟨Fi, ρi, rfl, hi, pi, si, sf, ei⟩
    by_cases hlt : i < ds.length
    · have hd : ds[i]? = some ds[i] := List.getElem?_eq_getElem hlt
      obtain ⟨ok1, _⟩ := ok Fi Hi sf si.sub i
      obtain ⟨go, yl⟩ := ok1 _ hd
      rw [drop_cons hd] at ei
      obtain ⟨ρ2, e2, ei1⟩ := bind_some ei
      obtain ⟨⟨f3, ρ3⟩, e3, ei2⟩ := bind_some ei1
      refine .inr ⟨go, fun σ' H' => ∃ F' ρ'', Stp F σ ρ H F' σ' ρ'' H' ∧ St (cxK X) F' H' σ' ρ'' ∧ Same F1 F' ∧ forX gt gb (ds.drop (i + 1)) ρ'' = some (f, ρ'), fun σ' H' ⟨F', ρ'', h1, h2, h3, h4⟩ => ⟨ds.length - (i + 1), by omega, F', ρ'', rfl, hlt, h1, h2, h3, h4⟩, fun v H' hy => ?_⟩
      obtain ⟨F', gr, rv⟩ := yl v H' hy
      have p' := pi.trans (gr.stp σi ρi)
      refine ⟨F', ρi, _, ρ2, si.grow gr, rv, e2, fun σ2 F2 H2 p2 s2 _ => ⟨F2, ρ2, f3, ρ3, s2, e3, fun σ3 F3 H3 p3 s3 => ?_⟩⟩
      have pp := p'.trans (p2.trans p3)
      have sff := sf.trans (gr.ff.trans (p2.ff.trans p3.ff))
      cases f3 with
      | inr x =>
        cases ei2
        exact k σ3 F3 H3 pp s3
      | inl f3 =>
        cases f3 with
        | nx => exact ⟨F3, ρ3, pp, s3, sff, ei2⟩
        | cnt => exact ⟨F3, ρ3, pp, s3, sff, ei2⟩
        | brk =>
          cases ei2
          exact k σ3 F3 H3 pp s3
        | ret r =>
          cases ei2
          exact k σ3 F3 H3 pp s3
        | rof r =>
          cases ei2
          exact fl_base (k σ3 F3 H3 pp s3) fun _ n => p'.none (p2.none n)
    · have hl : i = ds.length := by omega
      obtain ⟨_, st⟩ := ok Fi Hi sf si.sub i
      rw [List.drop_of_length_le (by omega)] at ei
      cases ei
      exact .inl ⟨st (by omega), k σi Fi Hi pi si⟩
end
def endX : (Fl ⊕ Xc) × Env → Option (D ⊕ Xc)
  | (.inl .nx, _) => some (.inl .none)
  | (.inl (.ret d), _) => some (.inl d)
  | (.inr x, _) => some (.inr x)
  | _ => none
def runX (N : Nat) (g : Sx) (ds : List D) : Option (D ⊕ Xc) := (g (envV N ds)).bind endX
section
variable {P : Program} {w : World} {K : PySem.W.Frag} {mg : Str → Option Value} {base : Heap}
theorem fn_X {x qual : Str} {st : Stmt} {f : Addr} {fd : FuncData} {N ps : List Str} {k : Nat} {g : Sx} (Fn : Fun K x qual st f fd) (S : FnScope N ps (defScope st))
    (hbody : ∀ (cdv : Value) (A : Around) (outer : List PySem.Env) (s : Shared) (H : Hp) (E : XK), Room k (A.deeper (envOfC qual (defScope st) s.heap.objs.size f cdv)) → SXs (cxOf (L2.CX P w) P w K mg base N qual (defScope st) f cdv A outer s H E) (fun cls d _ H => E cls d H) (defBody st) g) :
    FnOk P w K mg base (L2.CX P w) (k + 1) f fd ps (spX ⟨K, P, w⟩ mg ps.length (runX N.length g)) := by
  refine Fn.okX S (fun vs H Q E h => h.1) fun cdv A outer s H vs Q E hr h => ⟨_, hbody cdv A outer s H E hr, ?_⟩
  obtain ⟨_, F, ds, r, sf, hd, ef, k⟩ := h
  obtain ⟨⟨fl, ρ'⟩, e1, e2⟩ := bind_some ef
  refine ⟨F, envV N.length ds, fl, ρ', st_vals sf hd, e1, fun σ' F' H' p s' => ?_⟩
  have gr := stp_grow p s'
  cases fl with
  | inr x =>
    cases e2
    exact k F' H' gr
  | inl fl =>
    cases fl with
    | nx =>
      cases e2
      exact k F' H' gr .non .non
    | ret d =>
      cases e2
      exact fun v rv => k F' H' gr v rv
    | rof d => cases e2
    | brk => cases e2
    | cnt => cases e2
end
section
variable {X : Cx} {W : WX} {x n : Str} {c : Value} {i : Nat} {body suite : List Stmt} {b₀ : Stmt} {np pos pos' : Pos}
/-- a wish kept from an earlier heap -/
def xTry (h : Str → Option Bool) (gb : Sx) (gs : Xc → Sd) : Sx := fun ρ => (gb ρ).bind fun p => match p.1 with
  | .inl f => some (.inl f, p.2)
  | .inr x => (h x.c).bind fun b => if b = true then xOk (gs x) p.2 else some (.inr x, p.2)
end
end Dn
set_option maxHeartbeats 2000000
namespace Dn
open PySem PySem.Spec PyProof.Rows L2
section
variable (K : Kx) (i : Nat) (a dd : Addr) (m : Str)
def tM (g : Md D) : TE := fun σ H Q => σ[i]? = some (some (.ref a)) ∧ ∃ (F : Hp) (ρ : Env) (d : D) (ρ' : Env), St K F H σ ρ ∧ H dd = some (xdM m) ∧ g ρ = some (d, ρ') ∧
  ∀ v F' H', Stp F σ ρ H F' σ ρ' H' → St K F' H' σ ρ' → Rp K F' v d → Q v H'
def tMS (g : Sd) : TS := fun E σ H => σ[i]? = some (some (.ref a)) ∧ ∃ (F : Hp) (ρ : Env) (f : Fl) (ρ' : Env), St K F H σ ρ ∧ H dd = some (xdM m) ∧ g ρ = some (f, ρ') ∧
  ∀ σ' F' H', Stp F σ ρ H F' σ' ρ' H' → St K F' H' σ' ρ' → FlOk K E H F' σ' H' f
end
abbrev ME (Y : Cx) (i : Nat) (a dd : Addr) (m : Str) (e : Expr) (g : Md D) : Prop := PE Y e (tM (cxK Y) i a dd m g)
abbrev MS (Y : Cx) (i : Nat) (a dd : Addr) (m : Str) (e : Stmt) (g : Sd) : Prop := PS Y e (tMS (cxK Y) i a dd m g)
abbrev MSs (Y : Cx) (i : Nat) (a dd : Addr) (m : Str) (e : List Stmt) (g : Sd) : Prop := PSs Y e (tMS (cxK Y) i a dd m g)
section
variable {Y : Cx} {i : Nat} {a dd : Addr} {m : Str} {e e2 c : Expr} {es : List Expr} {pos p : Pos} {x : Str} {st : Stmt} {sts : List Stmt}
theorem mss_one {g : Sd} (h1 : MS Y i a dd m st g) : MSs Y i a dd m [st] g := pss_one h1
end
section
variable {X : Cx} {i : Nat} {a dd C Tc fI : Addr} {m : Str} {oe : Obj} {pn : List (Addr × Obj)} {pos p p2 : Pos} {x y n : Str}
/-- e.message -/
theorem me_msg (T : Tw.TdTxt X.prog X.K X.mg n C Tc fI) (hz : Zc (.ref C) (some dd) oe) (hf : ∃ vs, oe.data = .fields vs) (hN : X.N[i]? = some y := by rfl) (hv : Vis X.env.scope y := by first | exact Or.inl rfl | exact Or.inr (Or.inl rfl) | exact Or.inr (Or.inr rfl)) (hd : (y == ("__debug__" : Str)) = false := by decide) (hcd : (y == ("__classdict__" : Str)) = false := by decide)
    (hb : attributeBase (.Name y p) "message" X.env (eval (.Name y p) X.env) = eval (.Name y p) X.env := by rfl) : ME (X.suite a ((a, oe) :: pn)) i a dd m (.Attribute (.Name y p) "message" pos) (gC (.str m)) :=
  pe_imp (pe_msg T hz hf (pe_var (X := X.suite a ((a, oe) :: pn)) (i := i) hN hv hd hcd) hb) fun σ H Q q => by
    obtain ⟨hi, F, ρ, d, ρ', s, hx, eg, k⟩ := q
    cases eg
    exact ⟨_, hi, rfl, .str m, hx, k _ F H Stp.refl s (.str m)⟩
end
section
variable {X : Cx} {W : WX} {x n : Str} {c : Value} {i : Nat} {body suite : List Stmt} {b₀ : Stmt} {np pos pos' : Pos}
def clearS (i : Nat) (g : Sd) : Sd := fun ρ => if notOwn ρ i = true ∧ i < ρ.length then (g (ρ.set i none)).bind fun p => match p.1 with
  | .ret d => some (.ret d, p.2)
  | _ => none else none
theorem st_clear {K : Kx} {F H : Hp} {σ : L2.St} {ρ : Env} {v : Option V} (s : St K F H σ ρ) (ho : notOwn ρ i = true) : St K F H (σ.set i v) (ρ.set i none) where
  sub := s.sub
  len := by rw [List.length_set, List.length_set]; exact s.len
  cell := fun j cj hj => by
    by_cases z : j = i
    · subst z
      by_cases hl : j < ρ.length
      · rw [List.getElem?_set_self hl] at hj; cases hj
      · rw [List.getElem?_eq_none (by simpa using hl)] at hj; cases hj
    · rw [get_set_ne z] at hj ⊢
      exact s.cell j cj hj
  dist := fun j l f g dj dl b h1 h2 h3 h4 => by
    have z1 : j ≠ i := fun z => by
      subst z
      by_cases hl : j < ρ.length
      · rw [List.getElem?_set_self hl] at h1; cases h1
      · rw [List.getElem?_eq_none (by simpa using hl)] at h1; cases h1
    have z2 : l ≠ i := fun z => by
      subst z
      by_cases hl : l < ρ.length
      · rw [List.getElem?_set_self hl] at h2; cases h2
      · rw [List.getElem?_eq_none (by simpa using hl)] at h2; cases h2
    rw [get_set_ne z1] at h1 h3
    rw [get_set_ne z2] at h2 h4
    exact s.dist j l f g dj dl b h1 h2 h3 h4
theorem stp_clear {F0 F H0 H : Hp} {σ0 σ : L2.St} {ρ0 ρ : Env} {v : Option V} (p : Stp F0 σ0 ρ0 H0 F σ ρ H) (ho : notOwn ρ i = true) : Stp F0 σ0 ρ0 H0 F (σ.set i v) (ρ.set i none) H where
  ff := p.ff
  keep := p.keep
  fresh := fun b hb => by
    obtain ⟨j, f, d, h1, h2⟩ := hb
    have z : j ≠ i := fun z => by
      subst z
      by_cases hl : j < ρ.length
      · rw [List.getElem?_set_self hl] at h1; cases h1
      · rw [List.getElem?_eq_none (by simpa using hl)] at h1; cases h1
    rw [get_set_ne z] at h1 h2
    exact p.fresh b ⟨j, f, d, h1, h2⟩
  fix := fun j d hj => by
    obtain ⟨e1, d', e2⟩ := p.fix j d hj
    have z : j ≠ i := fun z => by
      subst z
      unfold notOwn at ho
      rw [e2] at ho
      cases ho
    rw [get_set_ne z, get_set_ne z]
    exact ⟨e1, d', e2⟩
  dom := p.dom
/-- try: body / except x as n: suite, the suite returning -/
def xTryA (i : Nat) (h : Str → Option Bool) (gb : Sx) (gs : Xc → Sd) : Sx := xTry h gb (fun x => clearS i (gs x))
/-- a def's body that may raise, where nothing of it leaves -/
def noX (g : Sx) : Sd := fun ρ => (g ρ).bind fun p => match p.1 with
  | .inl f => some (f, p.2)
  | .inr _ => none
theorem ds_noX {st : Stmt} {g : Sx} (h : SX X (fun _ _ _ _ => False) st g) : DS X st (noX g) := ps_imp h fun E σ H q => by
  obtain ⟨F, ρ, f, ρ', s, eg, k⟩ := q
  obtain ⟨⟨f1, ρ1⟩, e1, eg1⟩ := bind_some eg
  cases f1 with
  | inl f1 =>
    cases eg1
    exact ⟨F, ρ, _, _, s, e1, fun σ1 F1 H1 p1 s1 => k σ1 F1 H1 p1 s1⟩
  | inr x => cases eg1
end
end Dn
set_option maxHeartbeats 2000000
namespace Dn
open PySem PySem.Spec PyProof.Rows L2
def hL (l : List (Str × Bool × (Str → Sd))) (c : Str) : Option Bool := (l.lookup c).map (·.1)
def sNo : Sd := fun _ => none
def gL (l : List (Str × Bool × (Str → Sd))) (xc : Xc) : Sd := match l.lookup xc.c with
  | some p => p.2 xc.m
  | none => sNo
theorem takes0 {X : Cx} : Takes X (fun _ _ _ _ => False) := fun _ _ x => by
  obtain ⟨_, _, _, _, _, _, _, _, _, _, _, _, _, _, _, _, z⟩ := x
  exact z.elim
section
variable {X : Cx} {W : WX} {x n : Str} {c : Value} {i : Nat} {body suite : List Stmt} {b₀ : Stmt} {np pos pos' : Pos}
/-- except x as n -/
inductive HA (X : Cx) (i : Nat) (c : Value) (ss : List Stmt) : List (Str × Bool × (Str → Sd)) → Prop
  | nil : HA X i c ss []
  | no {n : Str} {C : Addr} {g : Str → Sd} {r : List (Str × Bool × (Str → Sd))} (gC : X.mg n = some (.ref C)) (ex : PySem.W.exmOne X.K (.ref C) c = some false) (h : HA X i c ss r) : HA X i c ss ((n, false, g) :: r)
  | yes {n : Str} {C : Addr} {g : Str → Sd} {r : List (Str × Bool × (Str → Sd))} (gC : X.mg n = some (.ref C)) (ex : PySem.W.exmOne X.K (.ref C) c = some true)
      (su : ∀ (m : Str) (a dd : Addr) (oe : Obj) (pn : List (Addr × Obj)), Zc (.ref C) (some dd) oe → (∃ vs, oe.data = .fields vs) → MSs (X.suite a ((a, oe) :: pn)) i a dd m ss (g m)) (h : HA X i c ss r) : HA X i c ss ((n, true, g) :: r)
theorem lookup_hd {β : Type} {k n : Str} {v : β} {l : List (Str × β)} : ((n, v) :: l).lookup k = if k = n then some v else l.lookup k := by
  by_cases h : k = n
  · subst h
    simp [List.lookup]
  · have e : (k == n) = false := by simpa using h
    rw [if_neg h]
    simp [List.lookup, e]
theorem HA.hh {ss : List Stmt} {l : List (Str × Bool × (Str → Sd))} (h : HA X i c ss l) (cn : Str) (C : Addr) (b : Bool) (e : hL l cn = some b) (hm : X.mg cn = some (.ref C)) : PySem.W.exmOne X.K (.ref C) c = some b := by
  induction h with
  | nil => cases e
  | @no n C' g r gC ex _ ih =>
    unfold hL at e
    rw [lookup_hd] at e
    by_cases q : cn = n
    · subst q
      rw [if_pos rfl] at e
      cases e
      rw [gC] at hm
      cases hm
      exact ex
    · rw [if_neg q] at e
      exact ih e
  | @yes n C' g r gC ex _ _ ih =>
    unfold hL at e
    rw [lookup_hd] at e
    by_cases q : cn = n
    · subst q
      rw [if_pos rfl] at e
      cases e
      rw [gC] at hm
      cases hm
      exact ex
    · rw [if_neg q] at e
      exact ih e
theorem HA.su {ss : List Stmt} {l : List (Str × Bool × (Str → Sd))} (h : HA X i c ss l) (xc : Xc) (C a dd : Addr) (oe : Obj) (pn : List (Addr × Obj)) (e : hL l xc.c = some true) (hm : X.mg xc.c = some (.ref C)) (hz : Zc (.ref C) (some dd) oe) (hf : ∃ vs, oe.data = .fields vs) : MSs (X.suite a ((a, oe) :: pn)) i a dd xc.m ss (gL l xc) := by
  induction h with
  | nil => cases e
  | @no n C' g r gC ex _ ih =>
    unfold hL at e
    unfold gL
    rw [lookup_hd] at e ⊢
    by_cases q : xc.c = n
    · rw [if_pos q] at e
      cases e
    · rw [if_neg q] at e ⊢
      exact ih e
  | @yes n C' g r gC ex su _ ih =>
    unfold hL at e
    unfold gL
    rw [lookup_hd] at e ⊢
    by_cases q : xc.c = n
    · rw [if_pos q]
      rw [q, gC] at hm
      cases hm
      exact su xc.m a dd oe pn hz hf
    · rw [if_neg q] at e ⊢
      exact ih e
/-- except x -/
inductive HB (X : Cx) (c : Value) (ss : List Stmt) : List (Str × Bool × (Str → Sd)) → Prop
  | nil : HB X c ss []
  | no {n : Str} {C : Addr} {g : Str → Sd} {r : List (Str × Bool × (Str → Sd))} (gC : X.mg n = some (.ref C)) (ex : PySem.W.exmOne X.K (.ref C) c = some false) (h : HB X c ss r) : HB X c ss ((n, false, g) :: r)
  | yes {n : Str} {C : Addr} {g : Str → Sd} {r : List (Str × Bool × (Str → Sd))} (gC : X.mg n = some (.ref C)) (ex : PySem.W.exmOne X.K (.ref C) c = some true)
      (su : ∀ (m : Str) (a : Addr) (oe : Obj) (pn : List (Addr × Obj)), DSs (X.suite a ((a, oe) :: pn)) ss (g m)) (h : HB X c ss r) : HB X c ss ((n, true, g) :: r)
theorem HB.hh {ss : List Stmt} {l : List (Str × Bool × (Str → Sd))} (h : HB X c ss l) (cn : Str) (C : Addr) (b : Bool) (e : hL l cn = some b) (hm : X.mg cn = some (.ref C)) : PySem.W.exmOne X.K (.ref C) c = some b := by
  induction h with
  | nil => cases e
  | @no n C' g r gC ex _ ih =>
    unfold hL at e
    rw [lookup_hd] at e
    by_cases q : cn = n
    · subst q
      rw [if_pos rfl] at e
      cases e
      rw [gC] at hm
      cases hm
      exact ex
    · rw [if_neg q] at e
      exact ih e
  | @yes n C' g r gC ex _ _ ih =>
    unfold hL at e
    rw [lookup_hd] at e
    by_cases q : cn = n
    · subst q
      rw [if_pos rfl] at e
      cases e
      rw [gC] at hm
      cases hm
      exact ex
    · rw [if_neg q] at e
      exact ih e
theorem HB.su {ss : List Stmt} {l : List (Str × Bool × (Str → Sd))} (h : HB X c ss l) (xc : Xc) (a : Addr) (oe : Obj) (pn : List (Addr × Obj)) (e : hL l xc.c = some true) : DSs (X.suite a ((a, oe) :: pn)) ss (gL l xc) := by
  induction h with
  | nil => cases e
  | @no n C' g r gC ex _ ih =>
    unfold hL at e
    unfold gL
    rw [lookup_hd] at e ⊢
    by_cases q : xc.c = n
    · rw [if_pos q] at e
      cases e
    · rw [if_neg q] at e ⊢
      exact ih e
  | @yes n C' g r gC ex su _ ih =>
    unfold hL at e
    unfold gL
    rw [lookup_hd] at e ⊢
    by_cases q : xc.c = n
    · rw [if_pos q]
      exact su xc.m a oe pn
    · rw [if_neg q] at e ⊢
      exact ih e
end
end Dn
set_option maxHeartbeats 2000000
namespace Dn
open PySem PySem.Spec PyProof.Rows L2
end Dn
set_option maxHeartbeats 2000000
namespace Dn
open PySem PySem.Spec PyProof.Rows L2
def xapp (as : List D) : List D ⊕ Xc → List D ⊕ Xc
  | .inl l => .inl (as ++ l)
  | .inr x => .inr x
def lcX (vs : List Nat) (tg : D → Env → Option Env) (tt : Md Bool) (te : Mx D) : List D → Env → Option ((List D ⊕ Xc) × Env)
  | [], ρ => some (.inl [], ρ)
  | d :: ds, ρ => (tg d ρ).bind fun ρ1 => (tt ρ1).bind fun p => if p.1 = true then (te p.2).bind fun q => match q.1 with
      | .inl y => (lcX vs tg tt te ds (wipeE q.2 vs)).bind fun r => some (xapp [y] r.1, r.2)
      | .inr x => some (.inr x, wipeE q.2 vs)
    else lcX vs tg tt te ds (wipeE p.2 vs)
def xlist : List D ⊕ Xc → D ⊕ Xc
  | .inl l => .inl (.list l)
  | .inr x => .inr x
/-- [e for x in it if ..], e may raise -/
def xLc (vs : List Nat) (gi : Md (List D)) (tg : D → Env → Option Env) (tt : Md Bool) (te : Mx D) : Mx D := fun ρ => (gi ρ).bind fun p =>
  if p.1.length ≤ 16777216 ∧ vs.all (notOwn p.2) = true then (lcX vs tg tt te p.1 (wipeE p.2 vs)).bind fun r => some (xlist r.1, backE p.2 vs r.2) else none
section
variable {X : Cx} {W : WX}
def xOwn (i : Nat) (g : Mx D) : Sx := xBind g fun d ρ => (setC i (.own false d) ρ).bind fun r => some (.inl .nx, r)
def noR (f : List D → Option (D ⊕ Xc)) : List D → Option D := fun ds => match f ds with
  | some (.inl d) => some d
  | _ => none
theorem noR_some {f : List D → Option (D ⊕ Xc)} {ds : List D} {d : D} (h : noR f ds = some d) : f ds = some (.inl d) := by
  unfold noR at h
  split at h
  · rename_i e
    cases h
    exact e
  · cases h
theorem de_callX0 {e : Expr} {es : List Expr} {x : Str} {p pos : Pos} {k n : Nat} {f : Addr} {fd : FuncData} {ps : List Str} {g : List D → Option (D ⊕ Xc)} {gs : Md (List D)} (G : FnOk X.prog X.w X.K X.mg X.base (L2.CX X.prog X.w) k f fd ps (spX (cxK X) X.mg n g)) (hr : Room k X.A) (hg : Gl X x) (hm : X.mg x = some (.ref f)) (hk : PySem.W.keepIn X.K (.ref f) = true) (hb : Binds X.K fd ps [])
    (ha : DA X (e :: es) gs) (hlen : ∀ ρ ds ρ', gs ρ = some (ds, ρ') → ds.length = n)
    (hdb : (x == ("__debug__" : Str)) = false := by decide) (he : starEach (e :: es) X.env = (false, eval e X.env) :: starEach es X.env := by rfl) (hpl : (backTo pos (starEach es X.env)).any (·.1) = false := by rfl) : DE X (.Call (.Name x p) (e :: es) [] pos) (gApp (noR g) gs) :=
  pe_imp (pe_callS (E := fun _ _ _ _ => False) G hr hg hm hk hb (fun σ pins H s e s' I c => by
    obtain ⟨_, _, _, _, _, _, _, _, _, _, _, _, h⟩ := c
    exact h.elim) ha hdb he hpl) fun σ H Q q => by
    obtain ⟨F, ρ, d, ρ', s, eg, k⟩ := q
    obtain ⟨⟨ds, ρ1⟩, e1, eg1⟩ := bind_some eg
    obtain ⟨d1, e2, eg2⟩ := bind_some eg1
    cases eg2
    refine ⟨F, ρ, ds, ρ1, s, e1, fun vs F1 H1 p1 s1 r1 => ⟨by rw [da_len r1]; exact hlen _ _ _ e1, F1, ds, _, s1.sub, r1, noR_some e2, fun F3 H3 gr v rv => ?_⟩⟩
    exact k v F3 H3 (p1.trans (gr.stp σ _)) (s1.grow gr) rv
end
end Dn
set_option maxHeartbeats 2000000
namespace Dn
open PySem PySem.Spec PyProof.Rows L2
section
variable {X : Cx} {e : Expr} {x : Str} {p pos : Pos}
def gCallIOF (f : D → List D → Option (D × D)) (g : Md D) : Md D := fun ρ => (g ρ).bind fun p => (f p.1 []).bind fun r => some (r.1, p.2)
end
end Dn
set_option maxHeartbeats 2000000
namespace Dn
open PySem PySem.Spec PyProof.Rows L2
end Dn
set_option maxHeartbeats 2000000
namespace Dn
open PySem PySem.Spec PyProof.Rows L2
end Dn
set_option maxHeartbeats 2000000
namespace Dm
open PySem Dn
abbrev Env := Dn.Env
def Wo {α : Type} (o : Option α) (Q : α → Prop) : Prop := ∃ a, o = some a ∧ Q a
def Wm {α : Type} (g : Md α) (ρ : Env) (Q : α → Env → Prop) : Prop := Wo (g ρ) fun p => Q p.1 p.2
def Ws (g : Sd) (ρ : Env) (Q : Fl → Env → Prop) : Prop := Wo (g ρ) fun p => Q p.1 p.2
section
variable {α β : Type} {ρ : Env}
theorem wo_some {a : α} {Q : α → Prop} : Wo (some a) Q ↔ Q a := ⟨fun ⟨_, e, q⟩ => by cases e; exact q, fun q => ⟨a, rfl, q⟩⟩
theorem wo_none {Q : α → Prop} : Wo (none : Option α) Q ↔ False := ⟨fun ⟨_, e, _⟩ => (by cases e), False.elim⟩
theorem wo_bind {o : Option α} {f : α → Option β} {Q : β → Prop} : Wo (o.bind f) Q ↔ Wo o fun a => Wo (f a) Q := by
  cases o with
  | none => exact ⟨fun ⟨_, e, _⟩ => (by cases e), fun ⟨_, e, _⟩ => (by cases e)⟩
  | some a => exact ⟨fun h => ⟨a, rfl, h⟩, fun ⟨_, e, h⟩ => by cases e; exact h⟩
theorem wo_mono {o : Option α} {Q Q' : α → Prop} (h : Wo o Q) (i : ∀ a, Q a → Q' a) : Wo o Q' := let ⟨a, e, q⟩ := h; ⟨a, e, i a q⟩
theorem wo_ite {c : Prop} [Decidable c] {a b : Option α} {Q : α → Prop} : Wo (if c then a else b) Q ↔ if c then Wo a Q else Wo b Q := by
  by_cases h : c
  · rw [if_pos h, if_pos h]
  · rw [if_neg h, if_neg h]
theorem wo_eq {o : Option α} {a : α} : Wo o (fun x => x = a) ↔ o = some a := ⟨fun ⟨_, e, q⟩ => by rw [e, q], fun h => ⟨a, h, rfl⟩⟩
def valOf : Option (Option Cell) → Option D
  | some (some (.val d)) => some d
  | _ => none
theorem valOf_val {d : D} : valOf (some (some (.val d))) = some d := rfl
/-- own lists that are looked at -/
def frzOf (i : Nat) (ρ : Env) : Option (Option Cell) → Option (D × Env)
  | some (some (.val d)) => some (d, ρ)
  | some (some (.own false d)) => if notT d = true then some (d, ρ.set i (some (.val d))) else none
  | _ => none
theorem frz_val {i : Nat} {d : D} : frzOf i ρ (some (some (.val d))) = some (d, ρ) := rfl
theorem frz_own {i : Nat} {xs : List D} : frzOf i ρ (some (some (.own false (.list xs)))) = some (.list xs, ρ.set i (some (.val (.list xs)))) := rfl
theorem frz_ownD {i : Nat} {xs : List (D × D)} : frzOf i ρ (some (some (.own false (.dict xs)))) = some (.dict xs, ρ.set i (some (.val (.dict xs)))) := rfl
def cOwn : Option (Option Cell) → Option (Bool × D)
  | some (some (.own b d)) => some (b, d)
  | _ => none
theorem cOwn_own {b : Bool} {d : D} : cOwn (some (some (.own b d))) = some (b, d) := rfl
def peekOf : Option (Option Cell) → Option D
  | some (some (.val d)) => some d
  | some (some (.own _ d)) => if notT d = true then some d else none
  | _ => none
theorem peek_val {d : D} : peekOf (some (some (.val d))) = some d := rfl
theorem peek_own {b : Bool} {xs : List D} : peekOf (some (some (.own b (.list xs)))) = some (.list xs) := rfl
theorem peek_ownD {b : Bool} {xs : List (D × D)} : peekOf (some (some (.own b (.dict xs)))) = some (.dict xs) := rfl
theorem ixO_l {xs : List D} {x : D} : ixO (.list xs) x = ixD (.list xs) x := rfl
theorem ixO_d {xs : List (D × D)} {x : D} : ixO (.dict xs) x = ixD (.dict xs) x := rfl
def canSet : Option (Option Cell) → Option Unit
  | some (some (.own true _)) => none
  | some _ => some ()
  | none => none
theorem canSet_none : canSet (some none) = some () := rfl
theorem canSet_val {d : D} : canSet (some (some (.val d))) = some () := rfl
theorem canSet_own {d : D} : canSet (some (some (.own false d))) = some () := rfl
def lstOf : D → Option (List D)
  | .list ds => some ds
  | _ => none
theorem lstOf_list {ds : List D} : lstOf (.list ds) = some ds := rfl
variable {Q : D → Env → Prop}
theorem wm_c {d : D} : Wm (gC d) ρ Q ↔ Q d ρ := wo_some
theorem wm_var {i : Nat} : Wm (gVar i) ρ Q ↔ Wo (valOf ρ[i]?) fun d => Q d ρ := by
  unfold Wm gVar
  split
  · rename_i d h
    rw [h, wo_some, valOf_val, wo_some]
  · rename_i h
    have e : valOf ρ[i]? = none := by
      unfold valOf
      split
      · rename_i d z
        exact absurd z (h d)
      · rfl
    rw [e, wo_none, wo_none]
theorem wm_frz {i : Nat} : Wm (gFrz i) ρ Q ↔ Wo (frzOf i ρ ρ[i]?) fun p => Q p.1 p.2 := by
  unfold Wm gFrz frzOf
  exact Iff.rfl
theorem wm_bin {f : D → D → Option D} {a b : Md D} : Wm (gBin f a b) ρ Q ↔ Wm a ρ fun x ρ1 => Wm b ρ1 fun y ρ2 => Wo (f x y) fun r => Q r ρ2 := by
  unfold Wm gBin
  simp only [wo_bind, wo_some]
theorem wm_un {f : D → Option D} {a : Md D} : Wm (gUn f a) ρ Q ↔ Wm a ρ fun x ρ1 => Wo (f x) fun r => Q r ρ1 := by
  unfold Wm gUn
  simp only [wo_bind, wo_some]
theorem wm_tst {a : Md D} {Q : Bool → Env → Prop} : Wm (gTst a) ρ Q ↔ Wm a ρ fun x ρ1 => Wo (bOf x) fun b => Q b ρ1 := by
  unfold Wm gTst
  simp only [wo_bind, wo_some]
theorem wm_tru {a : Md D} {Q : Bool → Env → Prop} : Wm (gTru a) ρ Q ↔ Wm a ρ fun x ρ1 => Wo (truT x) fun b => Q b ρ1 := by
  unfold Wm gTru
  simp only [wo_bind, wo_some]
theorem wm_truB {i : Nat} {Q : Bool → Env → Prop} : Wm (gTruB i) ρ Q ↔ Wo (peekOf ρ[i]?) fun d => Wo (truT d) fun b => Q b ρ := by
  unfold Wm gTruB
  simp only [wo_bind, wo_some]
  exact Iff.rfl
theorem wm_chain {f f' : D → D → Option D} {a b c : Md D} : Wm (gChain f f' a b c) ρ Q ↔ Wm a ρ fun x ρ1 => Wm b ρ1 fun y ρ2 => Wo (f x y) fun r => Wo (bOf r) fun t =>
    if t = true then Wm c ρ2 fun z ρ3 => Wo (f' y z) fun r => Q r ρ3 else Q (.bool false) ρ2 := by
  unfold Wm gChain
  simp only [wo_bind, wo_some, wo_ite]
theorem wm_and {a b : Md Bool} {Q : Bool → Env → Prop} : Wm (gAnd a b) ρ Q ↔ Wm a ρ fun x ρ1 => if x = true then Wm b ρ1 Q else Q false ρ1 := by
  unfold Wm gAnd
  simp only [wo_bind, wo_some, wo_ite]
theorem wm_or {a b : Md Bool} {Q : Bool → Env → Prop} : Wm (gOr a b) ρ Q ↔ Wm a ρ fun x ρ1 => if x = true then Q true ρ1 else Wm b ρ1 Q := by
  unfold Wm gOr
  simp only [wo_bind, wo_some, wo_ite]
theorem wm_not {a : Md Bool} {Q : Bool → Env → Prop} : Wm (gNot a) ρ Q ↔ Wm a ρ fun x ρ1 => Q (!x) ρ1 := by
  unfold Wm gNot
  simp only [wo_bind, wo_some]
theorem wm_andV {a b : Md D} : Wm (gAndV a b) ρ Q ↔ Wm a ρ fun x ρ1 => Wo (bOf x) fun t => if t = true then Wm b ρ1 Q else Q (.bool false) ρ1 := by
  unfold Wm gAndV
  simp only [wo_bind, wo_some, wo_ite]
theorem wm_orV {a b : Md D} : Wm (gOrV a b) ρ Q ↔ Wm a ρ fun x ρ1 => Wo (bOf x) fun t => if t = true then Q (.bool true) ρ1 else Wm b ρ1 Q := by
  unfold Wm gOrV
  simp only [wo_bind, wo_some, wo_ite]
theorem wm_notV {a : Md D} : Wm (gNotV a) ρ Q ↔ Wm a ρ fun x ρ1 => Wo (bOf x) fun t => Q (.bool !t) ρ1 := by
  unfold Wm gNotV
  simp only [wo_bind, wo_some]
theorem wm_ifE {c : Md Bool} {a b : Md D} : Wm (gIfE c a b) ρ Q ↔ Wm c ρ fun x ρ1 => if x = true then Wm a ρ1 Q else Wm b ρ1 Q := by
  unfold Wm gIfE
  simp only [wo_bind, wo_some, wo_ite]
theorem wm_nil {Q : List D → Env → Prop} : Wm gNil ρ Q ↔ Q [] ρ := wo_some
theorem wm_cons {a : Md D} {b : Md (List D)} {Q : List D → Env → Prop} : Wm (gCons a b) ρ Q ↔ Wm a ρ fun x ρ1 => Wm b ρ1 fun y ρ2 => Q (x :: y) ρ2 := by
  unfold Wm gCons
  simp only [wo_bind, wo_some]
theorem wm_app {f : List D → Option D} {a : Md (List D)} : Wm (gApp f a) ρ Q ↔ Wm a ρ fun x ρ1 => Wo (f x) fun r => Q r ρ1 := by
  unfold Wm gApp
  simp only [wo_bind, wo_some]
theorem wm_noP {Q : Option Int → Env → Prop} : Wm gNoP ρ Q ↔ Q none ρ := wo_some
theorem wm_part {a : Md D} {Q : Option Int → Env → Prop} : Wm (gPart a) ρ Q ↔ Wm a ρ fun x ρ1 => Wo (iOf x) fun i => Q (some i) ρ1 := by
  unfold Wm gPart
  simp only [wo_bind, wo_some]
theorem wm_sl {a : Md D} {l h : Md (Option Int)} : Wm (gSl a l h) ρ Q ↔ Wm a ρ fun x ρ1 => Wm l ρ1 fun i ρ2 => Wm h ρ2 fun j ρ3 => Wo (cutD x i j) fun r => Q r ρ3 := by
  unfold Wm gSl
  simp only [wo_bind, wo_some]
theorem wm_pk {i : Nat} {f : List D → Option D} : Wm (gPk i f) ρ Q ↔ Wo (peekOf ρ[i]?) fun d => Wo (f [d]) fun r => flatD r = true ∧ Q r ρ := by
  unfold Wm gPk
  simp only [wo_bind]
  refine Iff.of_eq (congrArg _ (funext fun d => congrArg _ (funext fun r => ?_)))
  rw [wo_ite, wo_some, wo_none]
  by_cases h : flatD r = true
  · rw [if_pos h]; simp [h]
  · rw [if_neg h]; simp [h]
theorem cOwn_some {o : Option (Option Cell)} {p : Bool × D} (h : cOwn o = some p) : o = some (some (.own p.1 p.2)) := by
  unfold cOwn at h
  split at h
  · cases h; rfl
  · cases h
theorem wm_io {i : Nat} {f : D → List D → Option (D × D)} {a : Md (List D)} : Wm (gCallIO i f a) ρ Q ↔ Wo (cOwn ρ[i]?) fun _ => Wm a ρ fun ds ρ1 => Wo (cOwn ρ1[i]?) fun c => Wo (f c.2 ds) fun r => Q r.1 (ρ1.set i (some (.own c.1 r.2))) := by
  unfold Wm gCallIO
  split
  · rename_i b d h
    rw [h, cOwn_own, wo_some, wo_bind]
    refine Iff.of_eq (congrArg _ (funext fun p => ?_))
    try dsimp only
    split
    · rename_i b1 d1 h1
      rw [h1, cOwn_own, wo_some, wo_bind]
      simp only [wo_some]
    · rename_i h1
      have e : cOwn p.2[i]? = none := by
        unfold cOwn
        split
        · rename_i b2 d2 z
          exact absurd z (h1 b2 d2)
        · rfl
      rw [e, wo_none, wo_none]
  · rename_i h
    have e : cOwn ρ[i]? = none := by
      unfold cOwn
      split
      · rename_i b2 d2 z
        exact absurd z (h b2 d2)
      · rfl
    rw [e, wo_none, wo_none]
theorem wm_ixB_val {i : Nat} {a : Md D} {d : D} (h : ρ[i]? = some (some (.val d))) : Wm (gIxB i a) ρ Q ↔ Wm a ρ fun x ρ1 => Wo (ixD d x) fun r => Q r ρ1 := by
  unfold Wm gIxB
  rw [h]
  simp only [wo_bind, wo_some]
theorem wm_ixB {i : Nat} {a : Md D} {b : Bool} {d : D} (h : ρ[i]? = some (some (.own b d))) : Wm (gIxB i a) ρ Q ↔ Wm a ρ fun x ρ1 => Wo (cOwn ρ1[i]?) fun c => Wo (ixO c.2 x) fun r => Q r ρ1 := by
  unfold Wm gIxB
  rw [h]
  simp only [wo_bind]
  refine Iff.of_eq (congrArg _ (funext fun p => ?_))
  try dsimp only
  split
  · rename_i b1 d1 h1
    rw [h1, cOwn_own, wo_some, wo_bind]
    simp only [wo_some]
  · rename_i h1
    have e : cOwn p.2[i]? = none := by
      unfold cOwn
      split
      · rename_i b2 d2 z
        exact absurd z (h1 b2 d2)
      · rfl
    rw [e, wo_none, wo_none]
def byCell (o : Option (Option Cell)) (p : D → Prop) (q : Prop) : Prop := match o with
  | some (some (.val d)) => p d
  | some (some (.own _ _)) => q
  | _ => False
theorem by_val {d : D} {p : D → Prop} {q : Prop} : byCell (some (some (.val d))) p q ↔ p d := Iff.rfl
theorem by_own {b : Bool} {d : D} {p : D → Prop} {q : Prop} : byCell (some (some (.own b d))) p q ↔ q := Iff.rfl
theorem wm_ix {i : Nat} {a : Md D} : Wm (gIxB i a) ρ Q ↔ byCell ρ[i]? (fun d => Wm a ρ fun x ρ1 => Wo (ixD d x) fun r => Q r ρ1) (Wm a ρ fun x ρ1 => Wo (cOwn ρ1[i]?) fun c => Wo (ixO c.2 x) fun r => Q r ρ1) := by
  cases h : ρ[i]? with
  | none =>
    unfold Wm gIxB
    rw [h, wo_none]
    exact Iff.rfl
  | some o =>
    cases o with
    | none =>
      unfold Wm gIxB
      rw [h, wo_none]
      exact Iff.rfl
    | some c =>
      cases c with
      | val d => exact wm_ixB_val h
      | own b d => exact wm_ixB h
theorem wm_inB {neg : Bool} {i : Nat} {a : Md D} : Wm (gInB neg i a) ρ Q ↔ Wm a ρ fun x ρ1 => Wo (peekOf ρ1[i]?) fun e => Wo (inT x e) fun b => Q (.bool (if neg = true then !b else b)) ρ1 := by
  unfold Wm gInB
  simp only [wo_bind, wo_some]
  exact Iff.rfl
theorem wm_true {Q : Bool → Env → Prop} : Wm gTrue ρ Q ↔ Q true ρ := wo_some
theorem wm_seq {a : Md D} {Q : List D → Env → Prop} : Wm (gSeq a) ρ Q ↔ Wm a ρ fun x ρ1 => Wo (seqOf x) fun ds => Q ds ρ1 := by
  unfold Wm gSeq
  simp only [wo_bind, wo_some]
def oneInt : List D → Option Int
  | [.int j] => if small62 j = true then some j else none
  | _ => none
theorem oneInt_int {j : Int} : oneInt [.int j] = if small62 j = true then some j else none := rfl
theorem wm_rng1 {a : Md (List D)} {Q : List D → Env → Prop} : Wm (gRng1 a) ρ Q ↔ Wm a ρ fun x ρ1 => Wo (oneInt x) fun j => Q (rngL 0 j.toNat) ρ1 := by
  unfold Wm gRng1
  rw [wo_bind]
  refine Iff.of_eq (congrArg _ (funext fun p => ?_))
  try dsimp only
  split
  · rename_i j e
    rw [e, oneInt_int, wo_ite, wo_ite, wo_some, wo_some, wo_none, wo_none]
  · rename_i h
    have e : oneInt p.1 = none := by
      unfold oneInt
      split
      · rename_i j z
        exact absurd z (h j)
      · rfl
    rw [e, wo_none, wo_none]
def twoInts : List D → Option (Int × Int)
  | [.int i, .int j] => if small62 i = true ∧ small62 j = true then some (i, j) else none
  | _ => none
theorem twoInts_int {i j : Int} : twoInts [.int i, .int j] = if small62 i = true ∧ small62 j = true then some (i, j) else none := rfl
theorem wm_rng2 {a : Md (List D)} {Q : List D → Env → Prop} : Wm (gRng2 a) ρ Q ↔ Wm a ρ fun x ρ1 => Wo (twoInts x) fun p => Q (rngL p.1 (p.2 - p.1).toNat) ρ1 := by
  unfold Wm gRng2
  rw [wo_bind]
  refine Iff.of_eq (congrArg _ (funext fun p => ?_))
  try dsimp only
  split
  · rename_i i j e
    rw [e, twoInts_int, wo_ite, wo_ite, wo_some, wo_some, wo_none, wo_none]
  · rename_i h
    have e : twoInts p.1 = none := by
      unfold twoInts
      split
      · rename_i i j z
        exact absurd z (h i j)
      · rfl
    rw [e, wo_none, wo_none]
def thenQ (t : Sd) (Q : Fl → Env → Prop) : Fl → Env → Prop
  | .nx, ρ => Ws t ρ Q
  | .ret d, ρ => Q (.ret d) ρ
  | .rof d, ρ => Q (.rof d) ρ
  | .brk, ρ => Q .brk ρ
  | .cnt, ρ => Q .cnt ρ
variable {R : Fl → Env → Prop}
theorem then_nx {t : Sd} : thenQ t R .nx ρ ↔ Ws t ρ R := Iff.rfl
theorem then_ret {t : Sd} {d : D} : thenQ t R (.ret d) ρ ↔ R (.ret d) ρ := Iff.rfl
theorem then_rof {t : Sd} {d : D} : thenQ t R (.rof d) ρ ↔ R (.rof d) ρ := Iff.rfl
theorem then_brk {t : Sd} : thenQ t R .brk ρ ↔ R .brk ρ := Iff.rfl
theorem then_cnt {t : Sd} : thenQ t R .cnt ρ ↔ R .cnt ρ := Iff.rfl
theorem ws_next : Ws sNext ρ R ↔ R .nx ρ := wo_some
theorem ws_brk : Ws sBrk ρ R ↔ R .brk ρ := wo_some
theorem ws_cnt : Ws sCnt ρ R ↔ R .cnt ρ := wo_some
theorem ws_seq {s t : Sd} : Ws (sSeq s t) ρ R ↔ Ws s ρ (thenQ t R) := by
  unfold Ws sSeq
  rw [wo_bind]
  refine Iff.of_eq (congrArg _ (funext fun p => ?_))
  try dsimp only
  obtain ⟨f, ρ1⟩ := p
  cases f with
  | nx => rfl
  | ret d => exact propext wo_some
  | rof d => exact propext wo_some
  | brk => exact propext wo_some
  | cnt => exact propext wo_some
theorem ws_if {g : Md Bool} {s t : Sd} : Ws (sIf g s t) ρ R ↔ Wm g ρ fun b ρ1 => if b = true then Ws s ρ1 R else Ws t ρ1 R := by
  unfold Ws Wm sIf
  simp only [wo_bind, wo_ite]
theorem ws_ret {g : Md D} : Ws (sRet g) ρ R ↔ Wm g ρ fun d ρ1 => R (.ret d) ρ1 := by
  unfold Ws Wm sRet
  simp only [wo_bind, wo_some]
theorem ws_rof {g : Md D} : Ws (sRof g) ρ R ↔ Wm g ρ fun d ρ1 => R (.rof d) ρ1 := by
  unfold Ws Wm sRof
  simp only [wo_bind, wo_some]
theorem ws_drop {g : Md D} : Ws (sDrop g) ρ R ↔ Wm g ρ fun _ ρ1 => R .nx ρ1 := by
  unfold Ws Wm sDrop
  simp only [wo_bind, wo_some]
theorem setC_eq {i : Nat} {c : Cell} : setC i c ρ = (canSet ρ[i]?).bind fun _ => some (ρ.set i (some c)) := by
  unfold setC canSet
  split <;> rename_i h <;> simp only [h] <;> try rfl
theorem ws_set {i : Nat} {g : Md D} : Ws (sSet i g) ρ R ↔ Wm g ρ fun d ρ1 => Wo (canSet ρ1[i]?) fun _ => R .nx (ρ1.set i (some (.val d))) := by
  unfold Ws Wm sSet
  simp only [wo_bind, wo_some, setC_eq]
theorem ws_own {i : Nat} {g : Md D} : Ws (sOwn i g) ρ R ↔ Wm g ρ fun d ρ1 => Wo (canSet ρ1[i]?) fun _ => R .nx (ρ1.set i (some (.own false d))) := by
  unfold Ws Wm sOwn
  simp only [wo_bind, wo_some, setC_eq]
theorem ws_asg {g : Md D} {t : D → Env → Option Env} : Ws (sAsg g t) ρ R ↔ Wm g ρ fun d ρ1 => Wo (t d ρ1) fun r => R .nx r := by
  unfold Ws Wm sAsg
  simp only [wo_bind, wo_some]
theorem wo_TN {i : Nat} {d : D} {Q : Env → Prop} : Wo (gTN i d ρ) Q ↔ Wo (canSet ρ[i]?) fun _ => Q (ρ.set i (some (.val d))) := by
  unfold gTN
  simp only [setC_eq, wo_bind, wo_some]
theorem wo_TNil {Q : Env → Prop} : Wo (gTNil [] ρ) Q ↔ Q ρ := wo_some
theorem wo_TCons {g : D → Env → Option Env} {gs : List D → Env → Option Env} {d : D} {ds : List D} {Q : Env → Prop} : Wo (gTCons g gs (d :: ds) ρ) Q ↔ Wo (g d ρ) fun ρ1 => Wo (gs ds ρ1) Q := wo_bind
theorem wo_TTup {n : Nat} {gs : List D → Env → Option Env} {ds : List D} {Q : Env → Prop} : Wo (gTTup n gs (.tuple ds) ρ) Q ↔ ds.length = n ∧ Wo (gs ds ρ) Q := by
  show Wo (if ds.length = n then gs ds ρ else none) Q ↔ _
  by_cases h : ds.length = n
  · rw [if_pos h]; simp [h]
  · rw [if_neg h, wo_none]; simp [h]
theorem ws_app {i : Nat} {g : Md D} {b0 : Bool} {xs : List D} (h : ρ[i]? = some (some (.own b0 (.list xs)))) : Ws (sApp i g) ρ R ↔ Wm g ρ fun d ρ1 => Wo (cOwn ρ1[i]?) fun c => Wo (lstOf c.2) fun ds => ds.length < 16777216 ∧ R .nx (ρ1.set i (some (.own c.1 (.list (ds ++ [d]))))) := by
  unfold Ws Wm sApp
  rw [h]
  simp only [wo_bind]
  refine Iff.of_eq (congrArg _ (funext fun p => ?_))
  try dsimp only
  split
  · rename_i b1 ds h1
    rw [h1, cOwn_own, wo_some]
    show _ = Wo (lstOf (.list ds)) _
    rw [lstOf_list, wo_some]
    by_cases hl : ds.length < 16777216
    · rw [if_pos hl, wo_some]; simp [hl]
    · rw [if_neg hl, wo_none]; simp [hl]
  · rename_i h1
    cases q : cOwn p.2[i]? with
    | none => rw [wo_none, wo_none]
    | some c =>
      have e := cOwn_some q
      rw [wo_none, wo_some]
      cases z : c.2 with
      | list ds => exact absurd (by rw [e, z]) (h1 c.1 ds)
      | none => exact propext ⟨False.elim, fun ⟨_, e, _⟩ => (by cases e)⟩
      | bool _ => exact propext ⟨False.elim, fun ⟨_, e, _⟩ => (by cases e)⟩
      | int _ => exact propext ⟨False.elim, fun ⟨_, e, _⟩ => (by cases e)⟩
      | str _ => exact propext ⟨False.elim, fun ⟨_, e, _⟩ => (by cases e)⟩
      | tuple _ => exact propext ⟨False.elim, fun ⟨_, e, _⟩ => (by cases e)⟩
      | dict _ => exact propext ⟨False.elim, fun ⟨_, e, _⟩ => (by cases e)⟩
theorem ws_ap {i : Nat} {g : Md D} : Ws (sApp i g) ρ R ↔ Wo (cOwn ρ[i]?) fun c0 => Wo (lstOf c0.2) fun _ => Wm g ρ fun d ρ1 => Wo (cOwn ρ1[i]?) fun c => Wo (lstOf c.2) fun ds => ds.length < 16777216 ∧ R .nx (ρ1.set i (some (.own c.1 (.list (ds ++ [d]))))) := by
  cases h : cOwn ρ[i]? with
  | none =>
    rw [wo_none]
    unfold Ws sApp
    split
    · rename_i b0 d0 h0
      rw [h0] at h
      cases h
    · rw [wo_none]
  | some c =>
    have e := cOwn_some h
    rw [wo_some]
    cases z : c.2 with
    | list xs =>
      rw [z] at e
      rw [lstOf_list, wo_some]
      exact ws_app e
    | none => exact ⟨fun ⟨_, q, _⟩ => (by rw [z] at e; unfold sApp at q; rw [e] at q; cases q), fun ⟨_, q, _⟩ => (by cases q)⟩
    | bool _ => exact ⟨fun ⟨_, q, _⟩ => (by rw [z] at e; unfold sApp at q; rw [e] at q; cases q), fun ⟨_, q, _⟩ => (by cases q)⟩
    | int _ => exact ⟨fun ⟨_, q, _⟩ => (by rw [z] at e; unfold sApp at q; rw [e] at q; cases q), fun ⟨_, q, _⟩ => (by cases q)⟩
    | str _ => exact ⟨fun ⟨_, q, _⟩ => (by rw [z] at e; unfold sApp at q; rw [e] at q; cases q), fun ⟨_, q, _⟩ => (by cases q)⟩
    | tuple _ => exact ⟨fun ⟨_, q, _⟩ => (by rw [z] at e; unfold sApp at q; rw [e] at q; cases q), fun ⟨_, q, _⟩ => (by cases q)⟩
    | dict _ => exact ⟨fun ⟨_, q, _⟩ => (by rw [z] at e; unfold sApp at q; rw [e] at q; cases q), fun ⟨_, q, _⟩ => (by cases q)⟩
theorem ws_setIx {i : Nat} {gv gi : Md D} : Ws (sSetIx i gv gi) ρ R ↔ Wm gv ρ fun d ρ1 => Wo (cOwn ρ1[i]?) fun _ => Wm gi ρ1 fun x ρ2 => Wo (iOf x) fun z => Wo (cOwn ρ2[i]?) fun c => Wo (lstOf c.2) fun ds => Wo (ixS ds.length z) fun j => R .nx (ρ2.set i (some (.own c.1 (.list (ds.set j d))))) := by
  unfold Ws Wm sSetIx
  rw [wo_bind]
  refine Iff.of_eq (congrArg _ (funext fun p => ?_))
  try dsimp only
  split
  · rename_i b0 d0 h0
    rw [h0, cOwn_own, wo_some, wo_bind]
    refine congrArg _ (funext fun q => ?_)
    try dsimp only
    rw [wo_bind]
    refine congrArg _ (funext fun z => ?_)
    try dsimp only
    split
    · rename_i b1 ds h1
      rw [h1, cOwn_own, wo_some, wo_bind]
      show _ = Wo (lstOf (.list ds)) _
      rw [lstOf_list, wo_some]
      simp only [wo_some]
    · rename_i h1
      cases q2 : cOwn q.2[i]? with
      | none => rw [wo_none, wo_none]
      | some c =>
        have e := cOwn_some q2
        rw [wo_none, wo_some]
        cases z : c.2 with
        | list ds => exact absurd (by rw [e, z]) (h1 c.1 ds)
        | none => exact propext ⟨False.elim, fun ⟨_, e, _⟩ => (by cases e)⟩
        | bool _ => exact propext ⟨False.elim, fun ⟨_, e, _⟩ => (by cases e)⟩
        | int _ => exact propext ⟨False.elim, fun ⟨_, e, _⟩ => (by cases e)⟩
        | str _ => exact propext ⟨False.elim, fun ⟨_, e, _⟩ => (by cases e)⟩
        | tuple _ => exact propext ⟨False.elim, fun ⟨_, e, _⟩ => (by cases e)⟩
        | dict _ => exact propext ⟨False.elim, fun ⟨_, e, _⟩ => (by cases e)⟩
  · rename_i h
    have e : cOwn p.2[i]? = none := by
      unfold cOwn
      split
      · rename_i b2 d2 z
        exact absurd z (h b2 d2)
      · rfl
    rw [e, wo_none, wo_none]
theorem ws_for {gi : Md (List D)} {tg : D → Env → Option Env} {b : Sd} : Ws (sFor gi tg b) ρ R ↔ Wm gi ρ fun ds ρ1 => Ws (forD tg b ds) ρ1 R := by
  unfold Ws Wm sFor
  rw [wo_bind]
theorem ws_mono {s : Sd} {R R' : Fl → Env → Prop} (h : Ws s ρ R) (i : ∀ f ρ', R f ρ' → R' f ρ') : Ws s ρ R' := wo_mono h fun p => i p.1 p.2
/-- every turn goes on -/
theorem for_all {tg : D → Env → Option Env} {b : Sd} (I : List D → Env → Prop) : ∀ (ds pre : List D) (ρ : Env), I pre ρ →
    (∀ (p : List D) (d : D) (r : List D) (ρ : Env), pre ++ ds = p ++ d :: r → I p ρ → Wo (tg d ρ) fun ρ1 => Ws b ρ1 fun f ρ2 => (f = .nx ∨ f = .cnt) ∧ I (p ++ [d]) ρ2) →
    Ws (forD tg b ds) ρ fun f ρ' => f = .nx ∧ I (pre ++ ds) ρ'
  | [], pre, ρ, h, _ => ⟨(.nx, ρ), rfl, rfl, by rw [List.append_nil]; exact h⟩
  | d :: ds, pre, ρ, h, st => by
    obtain ⟨ρ1, e1, ⟨f, ρ2⟩, e2, hf, h2⟩ := st pre d ds ρ rfl h
    have ih := for_all I ds (pre ++ [d]) ρ2 h2 (fun p d' r ρ' e => st p d' r ρ' (by rw [← e]; simp))
    obtain ⟨⟨f', ρ'⟩, e3, h3, h4⟩ := ih
    refine ⟨(f', ρ'), ?_, h3, by simpa using h4⟩
    have hf' : f = .nx ∨ f = .cnt := hf
    show ((tg d ρ).bind fun ρ1 => (b ρ1).bind _) = _
    rw [e1]
    show ((b ρ1).bind _) = _
    rw [e2]
    rcases hf' with z | z
    · subst z; exact e3
    · subst z; exact e3
theorem ws_forall {tg : D → Env → Option Env} {b : Sd} {ds : List D} (I : List D → Env → Prop) (h0 : I [] ρ)
    (st : ∀ (p : List D) (d : D) (r : List D) (ρ : Env), ds = p ++ d :: r → I p ρ → Wo (tg d ρ) fun ρ1 => Ws b ρ1 fun f ρ2 => (f = .nx ∨ f = .cnt) ∧ I (p ++ [d]) ρ2)
    (fin : ∀ ρ', I ds ρ' → R .nx ρ') : Ws (forD tg b ds) ρ R :=
  ws_mono (for_all I ds [] ρ h0 fun p d r ρ e => st p d r ρ (by simpa using e)) fun f ρ' ⟨h1, h2⟩ => by
    subst h1
    exact fin ρ' (by simpa using h2)
theorem for_nil {tg : D → Env → Option Env} {b : Sd} : Ws (forD tg b []) ρ R ↔ R .nx ρ := wo_some
def turnQ (t : Sd) (R : Fl → Env → Prop) : Fl → Env → Prop
  | .nx, ρ => Ws t ρ R
  | .cnt, ρ => Ws t ρ R
  | .brk, ρ => R .nx ρ
  | .ret d, ρ => R (.ret d) ρ
  | .rof d, ρ => R (.rof d) ρ
theorem turn_nx {t : Sd} : turnQ t R .nx ρ ↔ Ws t ρ R := Iff.rfl
theorem turn_cnt {t : Sd} : turnQ t R .cnt ρ ↔ Ws t ρ R := Iff.rfl
theorem turn_brk {t : Sd} : turnQ t R .brk ρ ↔ R .nx ρ := Iff.rfl
theorem turn_ret {t : Sd} {d : D} : turnQ t R (.ret d) ρ ↔ R (.ret d) ρ := Iff.rfl
theorem turn_rof {t : Sd} {d : D} : turnQ t R (.rof d) ρ ↔ R (.rof d) ρ := Iff.rfl
theorem for_cons {tg : D → Env → Option Env} {b : Sd} {d : D} {ds : List D} : Ws (forD tg b (d :: ds)) ρ R ↔ Wo (tg d ρ) fun ρ1 => Ws b ρ1 (turnQ (forD tg b ds) R) := by
  show Wo ((tg d ρ).bind fun ρ1 => (b ρ1).bind _) _ ↔ _
  rw [wo_bind]
  refine Iff.of_eq (congrArg _ (funext fun ρ1 => ?_))
  try dsimp only
  rw [wo_bind]
  unfold Ws
  refine congrArg _ (funext fun p => ?_)
  try dsimp only
  obtain ⟨f, ρ2⟩ := p
  cases f with
  | nx => rfl
  | cnt => rfl
  | ret d => exact propext wo_some
  | rof d => exact propext wo_some
  | brk => exact propext wo_some
theorem wm_lc {vs : List Nat} {gi : Md (List D)} {tg : D → Env → Option Env} {tt : Md Bool} {te : Md D} : Wm (gLc vs gi tg tt te) ρ Q ↔ Wm gi ρ fun ds ρ1 => (ds.length ≤ 16777216 ∧ vs.all (notOwn ρ1) = true) ∧ Wo (lcD vs tg tt te ds (wipeE ρ1 vs)) fun r => Q (.list r.1) (backE ρ1 vs r.2) := by
  unfold Wm gLc
  rw [wo_bind]
  refine Iff.of_eq (congrArg _ (funext fun p => ?_))
  try dsimp only
  by_cases h : p.1.length ≤ 16777216 ∧ vs.all (notOwn p.2) = true
  · rw [if_pos h, wo_bind]
    simp only [wo_some]
    exact propext ⟨fun z => ⟨h, z⟩, fun z => z.2⟩
  · rw [if_neg h, wo_none]
    exact propext ⟨False.elim, fun z => h z.1⟩
theorem lc_nil {vs : List Nat} {tg : D → Env → Option Env} {tt : Md Bool} {te : Md D} {Q : List D × Env → Prop} : Wo (lcD vs tg tt te [] ρ) Q ↔ Q ([], ρ) := wo_some
theorem lc_cons {vs : List Nat} {tg : D → Env → Option Env} {tt : Md Bool} {te : Md D} {d : D} {ds : List D} {Q : List D × Env → Prop} : Wo (lcD vs tg tt te (d :: ds) ρ) Q ↔ Wo (tg d ρ) fun ρ1 => Wm tt ρ1 fun b ρ2 =>
    if b = true then Wm te ρ2 fun y ρ3 => Wo (lcD vs tg tt te ds (wipeE ρ3 vs)) fun r => Q (y :: r.1, r.2) else Wo (lcD vs tg tt te ds (wipeE ρ2 vs)) Q := by
  show Wo ((tg d ρ).bind fun ρ1 => (tt ρ1).bind _) _ ↔ _
  unfold Wm
  simp only [wo_bind, wo_some, wo_ite]
theorem wo_runV {N : Nat} {g : Sd} {ds : List D} {Q : D → Prop} : Wo (runV N g ds) Q ↔ Ws g (envV N ds) fun f ρ => Wo (endV (f, ρ)) Q := wo_bind
theorem wo_runF {N : Nat} {g : Sd} {ds : List D} {Q : D → Prop} : Wo (runF N g ds) Q ↔ Ws g (envV N ds) fun f ρ => Wo (endF (f, ρ)) Q := wo_bind
theorem wo_runIO {N : Nat} {g : Sd} {d : D} {ds : List D} {Q : D × D → Prop} : Wo (runIO N g d ds) Q ↔ Ws g (envIO N d ds) fun f ρ => Wo (endIO (f, ρ)) Q := wo_bind
theorem end_ret {d : D} {Q : D → Prop} : Wo (endV (.ret d, ρ)) Q ↔ Q d := wo_some
theorem end_nx {Q : D → Prop} : Wo (endV (.nx, ρ)) Q ↔ Q .none := wo_some
theorem end_rof {d : D} {Q : D → Prop} : Wo (endF (.rof d, ρ)) Q ↔ Q d := wo_some
theorem end_io {f : Fl} {Q : D × D → Prop} : Wo (endIO (f, ρ)) Q ↔ Wo (ownOf ρ[0]?) fun d => Wo (endV (f, ρ)) fun r => Q (r, d) := by
  unfold endIO
  simp only [wo_bind, wo_some]
theorem ownOf_own {d : D} : ownOf (some (some (.own true d))) = some d := rfl
end
section
variable {i j : Int} {a b : Str} {p q : Bool} {xs ys : List D} {d e : D}
theorem add_ii : addD (.int i) (.int j) = some (.int (i + j)) := rfl
theorem add_ll : addD (.list xs) (.list ys) = if xs.length + ys.length ≤ 16777216 then some (.list (xs ++ ys)) else none := rfl
theorem add_tt : addD (.tuple xs) (.tuple ys) = if xs.length + ys.length ≤ 16777216 then some (.tuple (xs ++ ys)) else none := rfl
theorem add_ss : addD (.str a) (.str b) = if a.length + b.length ≤ 16777216 then some (.str (a ++ b)) else none := rfl
theorem sub_ii : subD (.int i) (.int j) = some (.int (i - j)) := rfl
theorem mul_ii : mulD (.int i) (.int j) = if i.natAbs.log2 + j.natAbs.log2 < 1000000 then some (.int (i * j)) else none := rfl
theorem mulS_ii : mulS (.int i) (.int j) = if -(2 ^ 64) < j ∧ j < 2 ^ 64 then some (.int (i * j)) else none := rfl
theorem mod_ii : modD (.int i) (.int j) = if 0 < j then some (.int (i % j)) else none := rfl
theorem fdiv_ii : fdivD (.int i) (.int j) = if 0 < j ∧ j < 18446744073709551616 then some (.int (i / j)) else none := rfl
theorem neg_i : negD (.int i) = some (.int (-i)) := rfl
theorem le_ii : leD (.int i) (.int j) = some (.bool (decide (i ≤ j))) := rfl
theorem gt_ii : gtD (.int i) (.int j) = some (.bool (decide (j < i))) := rfl
theorem ge_ii : geD (.int i) (.int j) = some (.bool (decide (j ≤ i))) := rfl
theorem eqT_ii : eqT (.int i) (.int j) = some (decide (i = j)) := rfl
theorem eqT_ss : eqT (.str a) (.str b) = some (decide (a = b)) := rfl
theorem eqT_bb : eqT (.bool p) (.bool q) = some (decide (p = q)) := rfl
theorem eqT_nn : eqT .none .none = some true := rfl
theorem ltT_ii : ltT (.int i) (.int j) = some (decide (i < j)) := rfl
theorem ltT_ss : ltT (.str a) (.str b) = some (decide (a.cps.toList < b.cps.toList)) := rfl
theorem wo_eqD {Q : D → Prop} : Wo (eqD d e) Q ↔ Wo (eqT d e) fun b => Q (.bool b) := by
  unfold eqD
  simp only [wo_bind, wo_some]
theorem wo_neD {Q : D → Prop} : Wo (neD d e) Q ↔ Wo (eqT d e) fun b => Q (.bool (!b)) := by
  unfold neD
  simp only [wo_bind, wo_some]
theorem wo_ltD {Q : D → Prop} : Wo (ltD d e) Q ↔ Wo (ltT d e) fun b => Q (.bool b) := by
  unfold ltD
  simp only [wo_bind, wo_some]
theorem wo_inD {Q : D → Prop} : Wo (inD d e) Q ↔ Wo (inT d e) fun b => Q (.bool b) := by
  unfold inD
  simp only [wo_bind, wo_some]
theorem wo_ninD {Q : D → Prop} : Wo (ninD d e) Q ↔ Wo (inT d e) fun b => Q (.bool (!b)) := by
  unfold ninD
  simp only [wo_bind, wo_some]
theorem is_n : isD d .none = some (.bool (isN d)) := by cases d <;> rfl
theorem isnt_n : isntD d .none = some (.bool (!isN d)) := by cases d <;> rfl
theorem is_bb : isD (.bool p) (.bool q) = some (.bool (decide (p = q))) := rfl
theorem isnt_bb : isntD (.bool p) (.bool q) = some (.bool (!decide (p = q))) := rfl
theorem bOf_b : bOf (.bool p) = some p := rfl
theorem iOf_i : iOf (.int i) = some i := rfl
theorem tru_b : truT (.bool p) = some p := rfl
theorem tru_n : truT .none = some false := rfl
theorem tru_i : truT (.int i) = some (i != 0) := rfl
theorem tru_l : truT (.list xs) = some (!xs.isEmpty) := rfl
theorem tru_t : truT (.tuple xs) = some (!xs.isEmpty) := rfl
theorem seq_l : seqOf (.list xs) = some xs := rfl
theorem seq_t : seqOf (.tuple xs) = some xs := rfl
theorem tup_l : tupF [.list xs] = some (.tuple xs) := rfl
theorem tup_t : tupF [.tuple xs] = some (.tuple xs) := rfl
theorem lst_l : lstF [.list xs] = some (.list xs) := rfl
theorem lst_t : lstF [.tuple xs] = some (.list xs) := rfl
theorem len_l : lenF [.list xs] = some (.int xs.length) := rfl
theorem len_t : lenF [.tuple xs] = some (.int xs.length) := rfl
theorem int_i : intF [.int i] = some (.int i) := rfl
theorem int_b : intF [.bool p] = some (.int (if p then 1 else 0)) := rfl
theorem abs_i : absF [.int i] = some (.int (if i < 0 then -i else i)) := rfl
theorem max_ii : maxF [.int i, .int j] = some (.int (if j > i then j else i)) := rfl
theorem min_ii : minF [.int i, .int j] = some (.int (if j < i then j else i)) := rfl
theorem ix_li : ixD (.list xs) (.int i) = ixA xs i := rfl
theorem ix_ti : ixD (.tuple xs) (.int i) = ixA xs i := rfl
theorem cut_l {l h : Option Int} : cutD (.list xs) l h = some (.list (cutA xs l h)) := rfl
theorem cut_t {l h : Option Int} : cutD (.tuple xs) l h = some (.tuple (cutA xs l h)) := rfl
theorem flat_i : flatD (.int i) = true := rfl
theorem flat_b : flatD (.bool p) = true := rfl
theorem flat_s : flatD (.str a) = true := rfl
theorem ix0 {α : Type} {x : α} {xs : List α} : ixA (x :: xs) 0 = some x := rfl
theorem ix1 {α : Type} {x y : α} {xs : List α} : ixA (x :: y :: xs) 1 = some y := rfl
theorem ix2 {α : Type} {x y z : α} {xs : List α} : ixA (x :: y :: z :: xs) 2 = some z := rfl
theorem isi_1 {T : String} {Q : D → Prop} : Wo (isiF T [d]) Q ↔ tyOk d = true ∧ Wo (L2.kitB (tyD d) T) fun b => Q (.bool b) := by
  show Wo (if tyOk d = true then (L2.kitB (tyD d) T).bind fun b => some (.bool b) else none) Q ↔ _
  by_cases h : tyOk d = true
  · simp only [h, ↓reduceIte, wo_bind, wo_some, true_and]
  · simp only [h, ↓reduceIte, wo_none, false_and, Bool.false_eq_true]
theorem tyOk_n : tyOk .none = true := rfl
theorem tyOk_b : tyOk (.bool p) = true := rfl
theorem tyOk_i : tyOk (.int i) = true := rfl
theorem tyOk_s : tyOk (.str a) = true := rfl
theorem tyOk_l : tyOk (.list xs) = true := rfl
theorem tyOk_t : tyOk (.tuple xs) = true := rfl
theorem k_nb : L2.kitB "NoneType" "bool" = some false := by decide +kernel
theorem k_bb : L2.kitB "bool" "bool" = some true := by decide +kernel
theorem k_ib : L2.kitB "int" "bool" = some false := by decide +kernel
theorem k_sb : L2.kitB "str" "bool" = some false := by decide +kernel
theorem k_ni : L2.kitB "NoneType" "int" = some false := by decide +kernel
theorem k_bi : L2.kitB "bool" "int" = some true := by decide +kernel
theorem k_ii : L2.kitB "int" "int" = some true := by decide +kernel
theorem k_si : L2.kitB "str" "int" = some false := by decide +kernel
theorem k_ns : L2.kitB "NoneType" "str" = some false := by decide +kernel
theorem k_bs : L2.kitB "bool" "str" = some false := by decide +kernel
theorem k_is : L2.kitB "int" "str" = some false := by decide +kernel
theorem k_ss : L2.kitB "str" "str" = some true := by decide +kernel
theorem k_ll : L2.kitB "list" "list" = some true := by decide +kernel
theorem k_tt : L2.kitB "tuple" "tuple" = some true := by decide +kernel
theorem ty_n : tyD .none = "NoneType" := rfl
theorem ty_b : tyD (.bool p) = "bool" := rfl
theorem ty_i : tyD (.int i) = "int" := rfl
theorem ty_s : tyD (.str a) = "str" := rfl
theorem ty_l : tyD (.list xs) = "list" := rfl
theorem ty_t : tyD (.tuple xs) = "tuple" := rfl
theorem wm_enum {a : Md (List D)} {ρ : Env} {Q : List D → Env → Prop} : Wm (gEnum a) ρ Q ↔ Wm a ρ fun x ρ1 => Wo (enumOf x) fun ds => Q ds ρ1 := by
  show Wo ((a ρ).bind fun p => (enumOf p.1).bind fun ds => some (ds, p.2)) _ ↔ _
  unfold Wm
  simp only [wo_bind, wo_some]
theorem enum_l : enumOf [.list xs] = some (enumL 0 xs) := rfl
theorem enum_t : enumOf [.tuple xs] = some (enumL 0 xs) := rfl
theorem enumL_nil {n : Nat} : enumL n [] = [] := rfl
theorem enumL_cons {n : Nat} : enumL n (d :: xs) = .tuple [.int n, d] :: enumL (n + 1) xs := rfl
theorem wm_dic {gs : List (Md D × Md D)} {ρ : Env} {Q : D → Env → Prop} : Wm (gDic gs) ρ Q ↔ Wm (gKV gs) ρ fun es ρ1 => keysOk es = true ∧ Q (PyData.dict es) ρ1 := by
  show Wo ((gKV gs ρ).bind fun p => if keysOk p.1 = true then some (PyData.dict p.1, p.2) else none) _ ↔ _
  unfold Wm
  rw [wo_bind]
  refine Iff.of_eq (congrArg _ (funext fun p => ?_))
  by_cases h : keysOk p.1 = true
  · simp only [h, ↓reduceIte, wo_some, true_and]
  · simp only [h, ↓reduceIte, wo_none, false_and, Bool.false_eq_true]
theorem wm_kvn {ρ : Env} {Q : List (D × D) → Env → Prop} : Wm (gKV []) ρ Q ↔ Q [] ρ := wo_some
theorem wm_kvc {gk gv : Md D} {r : List (Md D × Md D)} {ρ : Env} {Q : List (D × D) → Env → Prop} : Wm (gKV ((gk, gv) :: r)) ρ Q ↔ Wm gk ρ fun k ρ1 => Wm gv ρ1 fun v ρ2 => Wm (gKV r) ρ2 fun es ρ3 => Q ((k, v) :: es) ρ3 := by
  show Wo ((gk ρ).bind fun p => (gv p.2).bind fun q => (gKV r q.2).bind fun z => some ((p.1, q.1) :: z.1, z.2)) _ ↔ _
  unfold Wm
  simp only [wo_bind, wo_some]
theorem seq_s : seqOf (.str a) = some (signsL a) := rfl
theorem mulT_si : mulT (.str a) (.int i) = if 0 ≤ i ∧ i ≤ 1000 ∧ a.length ≤ 1000 then some (.str (Txt.mul a i)) else none := rfl
theorem len_s : lenF [.str a] = if a.length ≤ 16777216 then some (.int a.length) else none := rfl
theorem ord_c {c : Nat} : ordF [.str ⟨#[c]⟩] = some (.int c) := rfl
theorem str_i : strF [.int i] = if i.natAbs.log2 < 1920 then some (.str (toString i)) else none := rfl
theorem k_lb : L2.kitB "list" "bool" = some false := by decide +kernel
theorem k_li : L2.kitB "list" "int" = some false := by decide +kernel
theorem k_ls : L2.kitB "list" "str" = some false := by decide +kernel
theorem k_tb : L2.kitB "tuple" "bool" = some false := by decide +kernel
theorem k_ti : L2.kitB "tuple" "int" = some false := by decide +kernel
theorem k_ts : L2.kitB "tuple" "str" = some false := by decide +kernel
theorem k_db : L2.kitB "dict" "bool" = some false := by decide +kernel
theorem k_di : L2.kitB "dict" "int" = some false := by decide +kernel
theorem k_ds : L2.kitB "dict" "str" = some false := by decide +kernel
theorem k_lt : L2.kitB "list" "tuple" = some false := by decide +kernel
theorem k_tl : L2.kitB "tuple" "list" = some false := by decide +kernel
theorem ty_d {es : List (D × D)} : tyD (.dict es) = "dict" := rfl
theorem wm_reve {a : Md D} {ρ : Env} {Q : List D → Env → Prop} : Wm (gReve a) ρ Q ↔ Wm a ρ fun x ρ1 => Wo (revOf x) fun ds => Q ds ρ1 := by
  show Wo ((a ρ).bind fun p => (revOf p.1).bind fun ds => some (ds, p.2)) _ ↔ _
  unfold Wm
  simp only [wo_bind, wo_some]
theorem rev_l : revOf (.list xs) = some xs.reverse := rfl
theorem rev_t : revOf (.tuple xs) = some xs.reverse := rfl
theorem wm_opBL {f : D → D → Option D} {i : Nat} {g : Md D} {ρ : Env} {Q : D → Env → Prop} : Wm (gOpBL f i g) ρ Q ↔ Wo (peekOf ρ[i]?) fun _ => Wm g ρ fun x ρ1 => Wo (peekOf ρ1[i]?) fun d => Wo (f d x) fun r => flatD r = true ∧ Q r ρ1 := by
  have e : ∀ ρ : Env, peek ρ i = peekOf ρ[i]? := fun ρ => rfl
  show Wo ((peek ρ i).bind fun _ => (g ρ).bind fun p => (peek p.2 i).bind fun d => (f d p.1).bind fun r => if flatD r = true then some (r, p.2) else none) _ ↔ _
  unfold Wm
  simp only [wo_bind, e]
  refine Iff.of_eq (congrArg _ (funext fun _ => congrArg _ (funext fun p => congrArg _ (funext fun d => congrArg _ (funext fun r => ?_)))))
  by_cases h : flatD r = true
  · simp only [h, ↓reduceIte, wo_some, true_and]
  · simp only [h, ↓reduceIte, wo_none, false_and, Bool.false_eq_true]
theorem repr_l : reprF [.list xs] = if reprOk (.list xs) = true then some (.str (PyData.list xs).shown) else none := rfl
theorem sort_l : sortF [.list xs] = if DnSo.sortOk xs = true then some (.list (xs.mergeSort DnSo.leD3)) else none := rfl
theorem sum_l : sumF [.list xs] = (numsOf xs).bind fun ns => some (.int ns.sum) := rfl
/-- those that pass a test -/
theorem lc_filterA {α : Type} {vs : List Nat} {tg : D → Env → Option Env} {tt : Md Bool} {te : Md D} (h f : α → D) (p : α → Bool) {ρ : Env} {Q : List D × Env → Prop} : ∀ (xs : List α), (∀ x ∈ xs, Wo (tg (h x) ρ) fun ρ1 => Wm tt ρ1 fun b ρ2 => b = p x ∧ (b = true → Wm te ρ2 fun y ρ3 => y = f x ∧ wipeE ρ3 vs = ρ) ∧ (b = false → wipeE ρ2 vs = ρ)) → Q ((xs.filter p).map f, ρ) → Wo (lcD vs tg tt te (xs.map h) ρ) Q
  | [], _, q => lc_nil.mpr q
  | d :: ds, hs, q => by
    rw [List.map_cons, lc_cons]
    refine wo_mono (hs d List.mem_cons_self) fun ρ1 h1 => ?_
    refine wo_mono h1 fun b h2 => ?_
    obtain ⟨h3, h4, h5⟩ := h2
    rw [List.filter_cons] at q
    rw [← h3] at q
    cases hb : b.1 with
    | true =>
      rw [hb] at q
      rw [if_pos rfl] at q ⊢
      refine wo_mono (h4 hb) fun y h6 => ?_
      dsimp only at h6 ⊢
      rw [h6.2]
      refine lc_filterA h f p (Q := fun r => Q (y.1 :: r.1, r.2)) ds (fun d' hd => hs d' (List.mem_cons_of_mem _ hd)) ?_
      rw [h6.1]
      exact q
    | false =>
      rw [hb] at q
      rw [if_neg (by decide)] at q ⊢
      rw [h5 hb]
      exact lc_filterA h f p ds (fun d' hd => hs d' (List.mem_cons_of_mem _ hd)) q
end
end Dm
set_option maxHeartbeats 2000000
namespace Dm
open PySem Dn DnSo
def dOwn : Option (Option Cell) → Option (Bool × List (D × D))
  | some (some (.own b (.dict es))) => some (b, es)
  | _ => none
def lOwn : Option (Option Cell) → Option (Bool × List D)
  | some (some (.own b (.list ds))) => some (b, ds)
  | _ => none
section
variable {ρ : Env} {Q : D → Env → Prop} {R : Fl → Env → Prop} {i : Nat}
theorem dOwn_own {b : Bool} {es : List (D × D)} : dOwn (some (some (.own b (.dict es)))) = some (b, es) := rfl
theorem lOwn_own {b : Bool} {ds : List D} : lOwn (some (some (.own b (.list ds)))) = some (b, ds) := rfl
theorem dic_cases (o : Option (Option Cell)) : (∃ b es, o = some (some (.own b (.dict es)))) ∨ (dOwn o = none ∧ ∀ b es, o ≠ some (some (.own b (.dict es)))) := by
  rcases o with _ | _ | d | ⟨b, d⟩
  · exact .inr ⟨rfl, fun _ _ h => by cases h⟩
  · exact .inr ⟨rfl, fun _ _ h => by cases h⟩
  · exact .inr ⟨rfl, fun _ _ h => by cases h⟩
  · cases d with
    | dict es => exact .inl ⟨b, es, rfl⟩
    | _ => exact .inr ⟨rfl, fun _ _ h => by cases h⟩
theorem lst_cases (o : Option (Option Cell)) : (∃ b ds, o = some (some (.own b (.list ds)))) ∨ (lOwn o = none ∧ ∀ b ds, o ≠ some (some (.own b (.list ds)))) := by
  rcases o with _ | _ | d | ⟨b, d⟩
  · exact .inr ⟨rfl, fun _ _ h => by cases h⟩
  · exact .inr ⟨rfl, fun _ _ h => by cases h⟩
  · exact .inr ⟨rfl, fun _ _ h => by cases h⟩
  · cases d with
    | list ds => exact .inl ⟨b, ds, rfl⟩
    | _ => exact .inr ⟨rfl, fun _ _ h => by cases h⟩
theorem own_cases (o : Option (Option Cell)) : (∃ b d, o = some (some (.own b d))) ∨ (cOwn o = none ∧ ∀ b d, o ≠ some (some (.own b d))) := by
  rcases o with _ | _ | d | ⟨b, d⟩
  · exact .inr ⟨rfl, fun _ _ h => by cases h⟩
  · exact .inr ⟨rfl, fun _ _ h => by cases h⟩
  · exact .inr ⟨rfl, fun _ _ h => by cases h⟩
  · exact .inl ⟨b, d, rfl⟩
def putO (es : List (D × D)) (k v : D) : Option (List (D × D)) := if keyTup k = true ∧ (nkD k).isSome = true ∧ es.length < 16777216 then some (putD es k v) else none
def atO (es : List (D × D)) (k : D) : Option D := if keyTup k = true ∧ (nkD k).isSome = true then atD es k else none
def getO (es : List (D × D)) (k x : D) : Option D := if keyTup k = true ∧ (nkD k).isSome = true then some ((atD es k).getD x) else none
def srtO (es : List (D × D)) : Option D := if sortOk (es.map (·.1)) = true then some (.list ((es.map (·.1)).mergeSort leD3)) else none
theorem wm_newD : Wm gNewD ρ Q ↔ Q (.dict []) ρ := wo_some
theorem ws_setK {gv gk : Md D} : Ws (sSetK i gv gk) ρ R ↔ Wm gv ρ fun v ρ1 => Wo (cOwn ρ1[i]?) fun _ => Wm gk ρ1 fun k ρ2 => Wo (dOwn ρ2[i]?) fun c => Wo (putO c.2 k v) fun es => R .nx (ρ2.set i (some (.own c.1 (.dict es)))) := by
  unfold Ws Wm sSetK
  rw [wo_bind]
  refine Iff.of_eq (congrArg _ (funext fun p => ?_))
  try dsimp only
  rcases own_cases p.2[i]? with ⟨b, d, h⟩ | ⟨h, hn⟩
  · split
    · rw [h, cOwn_own, wo_some, wo_bind]
      refine congrArg _ (funext fun q => ?_)
      try dsimp only
      rcases dic_cases q.2[i]? with ⟨b, es, h2⟩ | ⟨h2, hn⟩
      · split
        · rename_i e
          rw [h2] at e
          cases e
          rw [h2, dOwn_own, wo_some]
          unfold putO
          simp only [wo_ite, wo_some, wo_none]
        · rename_i e
          exact absurd h2 (e _ _)
      · split
        · rename_i e
          exact absurd e (hn _ _)
        · rw [h2, wo_none, wo_none]
    · rename_i e
      exact absurd h (e _ _)
  · split
    · rename_i e
      exact absurd e (hn _ _)
    · rw [h, wo_none, wo_none]
theorem wm_get {gk gx : Md D} : Wm (gGet i gk gx) ρ Q ↔ Wo (dOwn ρ[i]?) fun _ => Wm gk ρ fun k ρ1 => Wm gx ρ1 fun x ρ2 => Wo (dOwn ρ2[i]?) fun c => Wo (getO c.2 k x) fun r => Q r ρ2 := by
  unfold Wm gGet
  rcases dic_cases ρ[i]? with ⟨b, es, h⟩ | ⟨h, hn⟩
  · split
    · rw [h, dOwn_own, wo_some, wo_bind]
      refine Iff.of_eq (congrArg _ (funext fun p => ?_))
      try dsimp only
      rw [wo_bind]
      refine congrArg _ (funext fun q => ?_)
      try dsimp only
      rcases dic_cases q.2[i]? with ⟨b, es, h2⟩ | ⟨h2, hn⟩
      · split
        · rename_i e
          rw [h2] at e
          cases e
          rw [h2, dOwn_own, wo_some]
          unfold getO
          simp only [wo_ite, wo_some, wo_none]
        · rename_i e
          exact absurd h2 (e _ _)
      · split
        · rename_i e
          exact absurd e (hn _ _)
        · rw [h2, wo_none, wo_none]
    · rename_i e
      exact absurd h (e _ _)
  · split
    · rename_i e
      exact absurd e (hn _ _)
    · rw [h, wo_none, wo_none]
theorem wm_ixK {gk : Md D} : Wm (gIxK i gk) ρ Q ↔ Wo (dOwn ρ[i]?) fun _ => Wm gk ρ fun k ρ1 => Wo (dOwn ρ1[i]?) fun c => Wo (atO c.2 k) fun r => Q r ρ1 := by
  unfold Wm gIxK
  rcases dic_cases ρ[i]? with ⟨b, es, h⟩ | ⟨h, hn⟩
  · split
    · rw [h, dOwn_own, wo_some, wo_bind]
      refine Iff.of_eq (congrArg _ (funext fun q => ?_))
      try dsimp only
      rcases dic_cases q.2[i]? with ⟨b, es, h2⟩ | ⟨h2, hn⟩
      · split
        · rename_i e
          rw [h2] at e
          cases e
          rw [h2, dOwn_own, wo_some]
          unfold atO
          simp only [wo_ite, wo_bind, wo_some, wo_none]
        · rename_i e
          exact absurd h2 (e _ _)
      · split
        · rename_i e
          exact absurd e (hn _ _)
        · rw [h2, wo_none, wo_none]
    · rename_i e
      exact absurd h (e _ _)
  · split
    · rename_i e
      exact absurd e (hn _ _)
    · rw [h, wo_none, wo_none]
theorem wm_sortN : Wm (gSortN i) ρ Q ↔ Wo (dOwn ρ[i]?) fun c => Wo (srtO c.2) fun r => Q r ρ := by
  unfold Wm gSortN
  rcases dic_cases ρ[i]? with ⟨b, es, h⟩ | ⟨h, hn⟩
  · split
    · rename_i e
      rw [h] at e
      cases e
      rw [h, dOwn_own, wo_some]
      unfold srtO
      simp only [wo_ite, wo_some, wo_none]
    · rename_i e
      exact absurd h (e _ _)
  · split
    · rename_i e
      exact absurd e (hn _ _)
    · rw [h, wo_none, wo_none]
theorem ws_ext {g : Md D} : Ws (sExt i g) ρ R ↔ Wo (lOwn ρ[i]?) fun _ => Wm g ρ fun d ρ1 => Wo (lOwn ρ1[i]?) fun c => Wo (lsD d) fun es => c.2.length + es.length ≤ 16777216 ∧ R .nx (ρ1.set i (some (.own c.1 (.list (c.2 ++ es))))) := by
  unfold Ws Wm sExt
  rcases lst_cases ρ[i]? with ⟨b, es, h⟩ | ⟨h, hn⟩
  · split
    · rw [h, lOwn_own, wo_some, wo_bind]
      refine Iff.of_eq (congrArg _ (funext fun q => ?_))
      try dsimp only
      rcases lst_cases q.2[i]? with ⟨b, es, h2⟩ | ⟨h2, hn⟩
      · split
        · rename_i e
          rw [h2] at e
          cases e
          rw [h2, lOwn_own, wo_some, wo_bind]
          refine congrArg _ (funext fun fs => ?_)
          try dsimp only
          rw [wo_ite, wo_some, wo_none]
          by_cases z : es.length + fs.length ≤ 16777216
          · rw [if_pos z]
            simp [z]
          · rw [if_neg z]
            simp [z]
        · rename_i e
          exact absurd h2 (e _ _)
      · split
        · rename_i e
          exact absurd e (hn _ _)
        · rw [h2, wo_none, wo_none]
    · rename_i e
      exact absurd h (e _ _)
  · split
    · rename_i e
      exact absurd e (hn _ _)
    · rw [h, wo_none, wo_none]
/-- a loop over items drawn by h: what holds ahead of each, what is asked of a turn -/
def stepQ (I : Env → Prop) (R : Fl → Env → Prop) : Fl → Env → Prop
  | .nx, ρ => I ρ
  | .cnt, ρ => I ρ
  | .brk, ρ => R .nx ρ
  | .ret d, ρ => R (.ret d) ρ
  | .rof d, ρ => R (.rof d) ρ
theorem step_nx {I : Env → Prop} : stepQ I R .nx ρ ↔ I ρ := Iff.rfl
theorem step_cnt {I : Env → Prop} : stepQ I R .cnt ρ ↔ I ρ := Iff.rfl
theorem step_brk {I : Env → Prop} : stepQ I R .brk ρ ↔ R .nx ρ := Iff.rfl
theorem step_ret {I : Env → Prop} {d : D} : stepQ I R (.ret d) ρ ↔ R (.ret d) ρ := Iff.rfl
theorem step_rof {I : Env → Prop} {d : D} : stepQ I R (.rof d) ρ ↔ R (.rof d) ρ := Iff.rfl
theorem for_go {α : Type} (h : α → D) {tg : D → Env → Option Env} {b : Sd} (I : List α → Env → Prop) : ∀ (xs p : List α) (ρ : Env), I p ρ →
    (∀ (q : List α) (x : α) (r : List α) (ρ : Env), p ++ xs = q ++ x :: r → I q ρ → Wo (tg (h x) ρ) fun ρ1 => Ws b ρ1 (stepQ (I (q ++ [x])) R)) →
    (∀ ρ', I (p ++ xs) ρ' → R .nx ρ') → Ws (forD tg b (xs.map h)) ρ R
  | [], p, ρ, h0, _, fin => for_nil.mpr (fin ρ (by rw [List.append_nil]; exact h0))
  | x :: xs, p, ρ, h0, st, fin => by
    rw [List.map_cons, for_cons]
    refine wo_mono (st p x xs ρ rfl h0) fun ρ1 h1 => ws_mono h1 fun f ρ2 h2 => ?_
    have go : I (p ++ [x]) ρ2 → Ws (forD tg b (xs.map h)) ρ2 R := fun h3 => for_go h I xs (p ++ [x]) ρ2 h3 (fun q y r ρ' e => st q y r ρ' (by rw [← e]; simp)) fun ρ' h4 => fin ρ' (by simpa using h4)
    cases f with
    | nx => exact go h2
    | cnt => exact go h2
    | brk => exact h2
    | ret d => exact h2
    | rof d => exact h2
theorem ws_forA {α : Type} (h : α → D) {xs : List α} {tg : D → Env → Option Env} {b : Sd} (I : List α → Env → Prop) (h0 : I [] ρ)
    (st : ∀ (q : List α) (x : α) (r : List α) (ρ : Env), xs = q ++ x :: r → I q ρ → Wo (tg (h x) ρ) fun ρ1 => Ws b ρ1 (stepQ (I (q ++ [x])) R))
    (fin : ∀ ρ', I xs ρ' → R .nx ρ') : Ws (forD tg b (xs.map h)) ρ R := for_go h I xs [] ρ h0 st fin
theorem for_en {α : Type} (h : α → D) {tg : D → Env → Option Env} {b : Sd} (I : List α → Env → Prop) : ∀ (xs p : List α) (ρ : Env), I p ρ →
    (∀ (q : List α) (x : α) (r : List α) (ρ : Env), p ++ xs = q ++ x :: r → I q ρ → Wo (tg (.tuple [.int q.length, h x]) ρ) fun ρ1 => Ws b ρ1 (stepQ (I (q ++ [x])) R)) →
    (∀ ρ', I (p ++ xs) ρ' → R .nx ρ') → Ws (forD tg b (enumL p.length (xs.map h))) ρ R
  | [], p, ρ, h0, _, fin => for_nil.mpr (fin ρ (by rw [List.append_nil]; exact h0))
  | x :: xs, p, ρ, h0, st, fin => by
    rw [List.map_cons, enumL_cons, for_cons]
    refine wo_mono (st p x xs ρ rfl h0) fun ρ1 h1 => ws_mono h1 fun f ρ2 h2 => ?_
    have e : p.length + 1 = (p ++ [x]).length := by rw [List.length_append, List.length_singleton]
    have go : I (p ++ [x]) ρ2 → Ws (forD tg b (enumL (p.length + 1) (xs.map h))) ρ2 R := fun h3 => by
      rw [e]
      exact for_en h I xs (p ++ [x]) ρ2 h3 (fun q y r ρ' e => st q y r ρ' (by rw [← e]; simp)) fun ρ' h4 => fin ρ' (by simpa using h4)
    cases f with
    | nx => exact go h2
    | cnt => exact go h2
    | brk => exact h2
    | ret d => exact h2
    | rof d => exact h2
theorem ws_forEn {α : Type} (h : α → D) {xs : List α} {tg : D → Env → Option Env} {b : Sd} (I : List α → Env → Prop) (h0 : I [] ρ)
    (st : ∀ (q : List α) (x : α) (r : List α) (ρ : Env), xs = q ++ x :: r → I q ρ → Wo (tg (.tuple [.int q.length, h x]) ρ) fun ρ1 => Ws b ρ1 (stepQ (I (q ++ [x])) R))
    (fin : ∀ ρ', I xs ρ' → R .nx ρ') : Ws (forD tg b (enumL 0 (xs.map h))) ρ R := for_en h I xs [] ρ h0 st fin
theorem rng_map (n : Nat) : rngL 0 n = (List.range n).map fun i : Nat => PyData.int i := by
  unfold rngL
  exact List.map_congr_left fun i _ => by rw [Int.zero_add]
theorem rng_split {n i : Nat} {p r : List Nat} (e : List.range n = p ++ i :: r) : p.length = i ∧ i < n := by
  have hl := congrArg List.length e
  rw [List.length_range, List.length_append, List.length_cons] at hl
  have h1 : (List.range n)[p.length]? = some i := by rw [e]; simp
  rw [List.getElem?_range (by omega)] at h1
  have := Option.some.inj h1
  omega
theorem lsD_list {ds : List D} : lsD (.list ds) = some ds := rfl
end
end Dm
set_option maxHeartbeats 2000000
namespace Dm
open PySem Dn DnSo
section
variable {ρ : Env} {Q : D → Env → Prop} {R : Fl → Env → Prop} {i : Nat}
theorem empty_own : emptyOwn (some (some (.own false (.dict [])))) = true := rfl
theorem ws_grp {p : Nat} {gi : Md (List D)} {gt : D → Env → Option Env} {g0 gk gx : Md D} : Ws (sGrp i gi gt p g0 gk gx) ρ R ↔ Wm gi ρ fun ds ρ1 => emptyOwn ρ1[i]? = true ∧ Wo (grpD gt p g0 gk gx ds [] (ρ1.set i none)) fun r => Wo (canSet r.2[i]?) fun _ => R .nx (r.2.set i (some (.val (.dict r.1)))) := by
  unfold Ws Wm sGrp
  rw [wo_bind]
  refine Iff.of_eq (congrArg _ (funext fun q => ?_))
  try dsimp only
  by_cases h : emptyOwn q.2[i]? = true
  · rw [if_pos h]
    simp only [wo_bind, wo_some, setC_eq, h, true_and]
  · rw [if_neg h, wo_none]
    simp [h]
theorem wm_getD {go gk gx : Md D} : Wm (gGetD go gk gx) ρ Q ↔ Wm go ρ fun o ρ1 => Wm gk ρ1 fun k ρ2 => Wm gx ρ2 fun x ρ3 => Wo (getG o k x) fun r => Q r ρ3 := by
  unfold Wm gGetD
  simp only [wo_bind, wo_some]
theorem wm_ind {go gx : Md D} : Wm (gInd go gx) ρ Q ↔ Wm go ρ fun o ρ1 => Wm gx ρ1 fun x ρ2 => Wo (indF o x) fun r => Q r ρ2 := by
  unfold Wm gInd
  simp only [wo_bind, wo_some]
end
theorem add2_ll {xs ys : List D} : addL2 (.list xs) (.list ys) = if xs.length + ys.length ≤ 16777216 then some (.list (xs ++ ys)) else none := rfl
theorem three_c {a b c : D} : three [a, b, c] = some (a, b, c) := rfl
theorem ws_par3 {ρ : Env} {R : Fl → Env → Prop} {i j l : Nat} {gs : Md (List D)} : Ws (sPar3 i j l gs) ρ R ↔ Wm gs ρ fun ds ρ0 => Wo (three ds) fun t => Wo (canSet ρ0[i]?) fun _ => Wo (canSet (ρ0.set i (some (.val t.1)))[j]?) fun _ => Wo (canSet ((ρ0.set i (some (.val t.1))).set j (some (.val t.2.1)))[l]?) fun _ => R .nx (((ρ0.set i (some (.val t.1))).set j (some (.val t.2.1))).set l (some (.val t.2.2))) := by
  unfold Ws Wm sPar3
  simp only [wo_bind, wo_some, setC_eq]
theorem lOwnD_own {b : Bool} {ds : List D} : lOwnD (some (some (.own b (.list ds)))) = some ds := rfl
theorem wm_lcW {ρ : Env} {Q : D → Env → Prop} {i0 : Nat} {vs : List Nat} {gt : D → Env → Option Env} {gc : Md Bool} {ge : Md D} : Wm (gLcW i0 vs gt gc ge) ρ Q ↔ Wo (lOwnD ρ[i0]?) fun ds => (ds.length ≤ 16777216 ∧ vs.all (notOwn ρ) = true ∧ i0 ∉ vs) ∧ Wo (lcW i0 vs gt gc ge ds.length 0 (wipeE ρ vs)) fun r => Q (.list r.1) (backE ρ vs r.2) := by
  unfold Wm gLcW
  rw [wo_bind]
  refine Iff.of_eq (congrArg _ (funext fun ds => ?_))
  by_cases h : ds.length ≤ 16777216 ∧ vs.all (notOwn ρ) = true ∧ i0 ∉ vs
  · rw [if_pos h, wo_bind]
    simp only [wo_some, h, true_and]
    simp
  · rw [if_neg h, wo_none]
    simp only [h, false_and]
theorem ix3 {a b c d : D} {r : List D} : ixA (a :: b :: c :: d :: r) 3 = some d := rfl
theorem ix4 {a b c d e : D} {r : List D} : ixA (a :: b :: c :: d :: e :: r) 4 = some e := rfl
theorem ix_m2 (a b c : D) : ixA [a, b, c] (-2) = some b := rfl
theorem ix_m1 (a b c : D) : ixA [a, b, c] (-1) = some c := rfl
theorem ix_p2 (a b : D) : ixA [a, b] (-2) = some a := rfl
theorem ix_p1 (a b : D) : ixA [a, b] (-1) = some b := rfl
end Dm
set_option maxHeartbeats 4000000
namespace Lw
open PySem Dn Dm
theorem wo_ix {xs : List D} {i : Int} {Q : D → Prop} (h0 : 0 ≤ i) (h1 : i < xs.length) (q : ∀ x ∈ xs, Q x) : Wo (ixA xs i) Q := by
  unfold ixA
  rw [if_pos h0]
  have hl : i.toNat < xs.length := by omega
  rw [List.getElem?_eq_getElem hl, wo_some]
  exact q _ (List.getElem_mem hl)
/-- a value -/
def gv (d : D) : Prop := flatD d = true ∧ SeqAt.shaped d = true
theorem log_ok {i j : Int} (a b : Nat) (ha : i.natAbs < 2 ^ a) (hb : j.natAbs < 2 ^ b) (h : a + b + 2 ≤ 1000000) : i.natAbs.log2 + j.natAbs.log2 < 1000000 := by
  have l : ∀ (n k : Nat), n < 2 ^ k → n.log2 ≤ k := fun n k h => by
    by_cases z : n = 0
    · subst z; simp
    · exact Nat.le_of_lt ((Nat.log2_lt z).mpr h)
  have h1 := l _ _ ha
  have h2 := l _ _ hb
  omega
theorem nab {m : Int} {b : Nat} (h0 : 0 ≤ m) (h : m < 2 ^ b) : m.natAbs < 2 ^ b := by
  have h2 : ((m.natAbs : Nat) : Int) = m := Int.natAbs_of_nonneg h0
  have h3 : ((m.natAbs : Nat) : Int) < ((2 ^ b : Nat) : Int) := by
    rw [h2]
    push_cast
    exact h
  exact Int.ofNat_lt.mp h3
def rk : D → Int
  | .none => 0
  | .bool b => 1 + (if b then 1 else 0)
  | .int _ => 3
  | _ => 4
theorem ixA_nat {α : Type} (xs : List α) (i : Nat) : ixA xs (i : Int) = xs[i]? := by
  unfold ixA
  rw [if_pos (Int.natCast_nonneg i)]
  rfl
theorem small_nat {n : Nat} (h : n ≤ 1000000000) : small62 (n : Int) = true := by
  unfold small62
  exact decide_eq_true ⟨by omega, by omega⟩
/-- a row of values -/
def gr (r : D) : Prop := ∃ xs, r = .tuple xs ∧ xs.length ≤ 1000 ∧ ∀ v ∈ xs, gv v
end Lw
set_option maxHeartbeats 4000000
namespace Lw
open PySem Dn Dm
/-- how often: min(M, max(1, l)) -/
theorem times {l m : Nat} {M : Int} (hM : M = m) (h1 : 1 ≤ m) : ∃ n : Nat, (if (if (l : Int) > 1 then (l : Int) else 1) < M then (if (l : Int) > 1 then (l : Int) else 1) else M) = (n : Int) ∧ n ≤ m := by
  subst hM
  by_cases h1 : (l : Int) > 1
  · by_cases h2 : (l : Int) < m
    · exact ⟨l, by simp only [h1, h2, ↓reduceIte], by omega⟩
    · exact ⟨m, by simp only [h1, h2, ↓reduceIte], by omega⟩
  · by_cases h2 : (1 : Int) < m
    · exact ⟨1, by simp only [h1, h2, ↓reduceIte]; rfl, by omega⟩
    · exact ⟨m, by simp only [h1, h2, ↓reduceIte], by omega⟩
end Lw
set_option maxHeartbeats 4000000
namespace Lw
open PySem Dn Dm
mutual
/-- small leaves -/
def smD : D → Bool
  | .none => true
  | .bool _ => true
  | .int i => decide (i.natAbs < 1000000000000)
  | .str s => PyData.strOk s && decide (s.length ≤ 100) && s.cps.toList.all fun c => decide (c < 16 ^ 8)
  | .list xs => smL xs
  | .tuple xs => smL xs
  | .dict _ => false
def smL : List D → Bool
  | [] => true
  | x :: xs => smD x && smL xs
end
mutual
def nodes : D → Nat
  | .list xs => nodesL xs
  | .tuple xs => nodesL xs
  | _ => 1
def nodesL : List D → Nat
  | [] => 0
  | x :: xs => nodes x + 1 + nodesL xs
end
theorem int_log {i : Int} (h : i.natAbs < 1000000000000) : i.natAbs.log2 < 60 := by
  by_cases z : i.natAbs = 0
  · rw [z]; decide
  · exact (Nat.log2_lt z).mpr (by omega)
mutual
theorem sm_ok : ∀ d : D, smD d = true → d.canLay0 = true ∧ PyData.showable d = true ∧ PyData.leavesShort 13 d = true ∧ d.weight ≤ 101 * nodes d
  | .none, _ => ⟨rfl, rfl, rfl, by simp [PyData.weight, nodes]⟩
  | .bool _, _ => ⟨rfl, rfl, rfl, by simp [PyData.weight, nodes]⟩
  | .int i, h => by
    have h' : i.natAbs < 1000000000000 := by simpa [smD] using h
    have hl := int_log h'
    refine ⟨rfl, ?_, ?_, ?_⟩
    · simp only [PyData.showable, decide_eq_true_eq]
      omega
    · simp only [PyData.leavesShort, decide_eq_true_eq]
      exact PyData.shown_int_le (by omega)
    · simp only [PyData.weight, nodes]
      split <;> omega
  | .str s, h => by
    simp only [smD, Bool.and_eq_true, decide_eq_true_eq] at h
    refine ⟨?_, rfl, ?_, ?_⟩
    · simpa [PyData.canLay0] using h.1.1
    · simpa only [PyData.leavesShort] using h.2
    · have h1 : s.cps.size ≤ 100 := h.1.2
      simp only [PyData.weight, nodes]
      omega
  | .list xs, h => by
    obtain ⟨h1, h2, h3, h4⟩ := smL_ok xs (by simpa [smD] using h)
    exact ⟨by simpa [PyData.canLay0] using h1, by simpa [PyData.showable] using h2, by simpa [PyData.leavesShort] using h3, by simpa [PyData.weight, nodes] using h4⟩
  | .tuple xs, h => by
    obtain ⟨h1, h2, h3, h4⟩ := smL_ok xs (by simpa [smD] using h)
    exact ⟨by simpa [PyData.canLay0] using h1, by simpa [PyData.showable] using h2, by simpa [PyData.leavesShort] using h3, by simpa [PyData.weight, nodes] using h4⟩
  | .dict _, h => by simp [smD] at h
theorem smL_ok : ∀ ds : List D, smL ds = true → PyData.canLayAll0 ds = true ∧ PyData.showableAll ds = true ∧ PyData.leavesShortAll 13 ds = true ∧ PyData.weightAll ds ≤ 101 * nodesL ds
  | [], _ => ⟨rfl, rfl, rfl, by simp [PyData.weightAll]⟩
  | d :: ds, h => by
    simp only [smL, Bool.and_eq_true] at h
    obtain ⟨h1, h2, h3, h4⟩ := sm_ok d h.1
    obtain ⟨i1, i2, i3, i4⟩ := smL_ok ds h.2
    refine ⟨by simp [PyData.canLayAll0, h1, i1], by simp [PyData.showableAll, h2, i2], by simp [PyData.leavesShortAll, h3, i3], ?_⟩
    simp only [PyData.weightAll, nodesL]
    omega
end
theorem smL_map {α : Type} {f : α → D} {xs : List α} (h : ∀ x ∈ xs, smD (f x) = true) : smL (xs.map f) = true := by
  induction xs with
  | nil => rfl
  | cons x xs ih => simp [smL, h x List.mem_cons_self, ih fun y hy => h y (List.mem_cons_of_mem _ hy)]
theorem depthL_map {α : Type} {f : α → D} {xs : List α} {n : Nat} (h : ∀ x ∈ xs, (f x).depth ≤ n) : PyData.depthAll (xs.map f) ≤ n := by
  induction xs with
  | nil => simp [PyData.depthAll]
  | cons x xs ih =>
    have h1 := h x List.mem_cons_self
    have h2 := ih fun y hy => h y (List.mem_cons_of_mem _ hy)
    simp only [List.map_cons, PyData.depthAll]
    omega
theorem nodesL_map {α : Type} {f : α → D} {xs : List α} {n : Nat} (h : ∀ x ∈ xs, nodes (f x) ≤ n) : nodesL (xs.map f) ≤ (n + 1) * xs.length := by
  induction xs with
  | nil => simp [nodesL]
  | cons x xs ih =>
    have h1 := h x List.mem_cons_self
    have h2 := ih fun y hy => h y (List.mem_cons_of_mem _ hy)
    simp only [List.map_cons, nodesL, List.length_cons, Nat.mul_add, Nat.mul_one]
    omega
theorem ofString_inj {a b : String} (h : Str.ofString a = Str.ofString b) : a = b := by
  have h1 := congrArg (fun s : Str => s.cps.toList) h
  simp only [PyProof.Rows.signs_ofString] at h1
  have h2 : a.toList = b.toList := (List.map_inj_right (fun x y e => Char.toNat_inj.mp e)).mp h1
  exact String.toList_inj.mp h2
theorem str_ne {a b : String} (h : a ≠ b) : (Str.ofString a = Str.ofString b) = False := eq_false fun z => h (ofString_inj z)
end Lw
set_option maxHeartbeats 4000000
namespace Lw
open PySem Dn Dm DnSo
/-- time and row; a move has a weight besides -/
abbrev Ky := Int × List D
abbrev Mv := Ky × Int
def neg (ms : List Mv) : List Mv := ms.map fun m => (m.1, -m.2)
/-- no key twice -/
def nd (F : List Mv) : Prop := F.Pairwise fun x y => x.1 ≠ y.1
end Lw
set_option maxHeartbeats 4000000
namespace Lw
open PySem Dn Dm DnSo
end Lw
set_option maxHeartbeats 2000000
namespace Dm
open PySem Dn DnSo Lw
section
variable {ρ : Env} {Q : D → Env → Prop} {R : Fl → Env → Prop} {i p q v : Nat} {gi : Md (List D)} {gt : D → Env → Option Env} {gk : Md D} {gc g0 : Md Bool} {g2 gx : Md D}
theorem wo_TLst {n : Nat} {gs : List D → Env → Option Env} {ds : List D} {Q : Env → Prop} : Wo (gTLst n gs (.list ds) ρ) Q ↔ ds.length = n ∧ Wo (gs ds ρ) Q := by
  show Wo (if ds.length = n then gs ds ρ else none) Q ↔ _
  by_cases h : ds.length = n
  · rw [if_pos h]; simp [h]
  · rw [if_neg h, wo_none]; simp [h]
theorem empty_ownL : emptyOwnL (some (some (.own false (.list [])))) = true := rfl
theorem ws_grpL : Ws (sGrpL i gi gt p q v gk gc g0 g2 gx) ρ R ↔ Wm gi ρ fun ds ρ1 => emptyOwnL ρ1[i]? = true ∧ Wo (grpLD gt p q v gk gc g0 g2 gx ds [] (ρ1.set i none)) fun r => Wo (canSet r.2[i]?) fun _ => R .nx (r.2.set i (some (.val (.list (r.1.map gpD))))) := by
  unfold Ws Wm sGrpL
  rw [wo_bind]
  refine Iff.of_eq (congrArg _ (funext fun w => ?_))
  try dsimp only
  by_cases h : emptyOwnL w.2[i]? = true
  · rw [if_pos h]
    simp only [wo_bind, wo_some, setC_eq, h, true_and]
  · rw [if_neg h, wo_none]
    simp [h]
end
end Dm
set_option maxHeartbeats 2000000
namespace Dm
open PySem Dn Gz
def Wg (g : Gd) (ρ : Env) (Q : List D → Fl → Env → Prop) : Prop := Wo (g ρ) fun p => Q p.1 p.2.1 p.2.2
def thenG (t : Gd) (Q : List D → Fl → Env → Prop) : List D → Fl → Env → Prop
  | ys, .nx, ρ => Wg t ρ fun zs f ρ1 => Q (ys ++ zs) f ρ1
  | ys, .ret d, ρ => Q ys (.ret d) ρ
  | ys, .rof d, ρ => Q ys (.rof d) ρ
  | ys, .brk, ρ => Q ys .brk ρ
  | ys, .cnt, ρ => Q ys .cnt ρ
section
variable {ρ : Env} {Q : List D → Fl → Env → Prop}
theorem wg_P {s : Sd} : Wg (gP s) ρ Q ↔ Ws s ρ fun f ρ1 => Q [] f ρ1 := by
  unfold Wg Ws gP
  simp only [wo_bind, wo_some]
theorem wg_end : Wg gEnd ρ Q ↔ Q [] .nx ρ := wo_some
theorem wg_then {s t : Gd} : Wg (gThen s t) ρ Q ↔ Wg s ρ (thenG t Q) := by
  unfold Wg gThen
  rw [wo_bind]
  refine Iff.of_eq (congrArg _ (funext fun p => ?_))
  obtain ⟨ys, f, ρ1⟩ := p
  cases f with
  | nx =>
    show Wo ((t ρ1).bind fun q => some (ys ++ q.1, q.2)) _ = Wo (t ρ1) _
    rw [wo_bind]
    simp only [wo_some]
  | ret d => exact propext wo_some
  | rof d => exact propext wo_some
  | brk => exact propext wo_some
  | cnt => exact propext wo_some
theorem theng_nx {t : Gd} {ys : List D} : thenG t Q ys .nx ρ ↔ Wg t ρ fun zs f ρ1 => Q (ys ++ zs) f ρ1 := Iff.rfl
theorem wg_yield {e : Md D} : Wg (gYield e) ρ Q ↔ Wm e ρ fun d ρ1 => Gz.noOwn ρ1 = true ∧ Q [d] .nx ρ1 := by
  unfold Wg Wm gYield
  rw [wo_bind]
  refine Iff.of_eq (congrArg _ (funext fun p => ?_))
  rw [wo_ite, wo_some, wo_none]
  by_cases h : Gz.noOwn p.2 = true
  · rw [if_pos h]; simp [h]
  · rw [if_neg h]; simp [h]
theorem wm_callG {f : List D → Option (List D)} {a : Md (List D)} {Q : List D → Env → Prop} : Wm (gCallG f a) ρ Q ↔ Wm a ρ fun x ρ1 => Wo (f x) fun r => Q r ρ1 := by
  unfold Wm gCallG
  simp only [wo_bind, wo_some]
theorem wo_runG {N : Nat} {g : Gd} {ds : List D} {Q : List D → Prop} : Wo (runG N g ds) Q ↔ Wg g (envV N ds) fun ys f _ => f = .nx ∧ Q ys := by
  unfold Wg runG
  rw [wo_bind]
  refine Iff.of_eq (congrArg _ (funext fun p => ?_))
  obtain ⟨ys, f, ρ1⟩ := p
  cases f with
  | nx => exact propext ⟨fun h => ⟨rfl, wo_some.mp h⟩, fun h => wo_some.mpr h.2⟩
  | ret d => exact propext ⟨fun h => (wo_none.mp h).elim, fun h => (by cases h.1)⟩
  | rof d => exact propext ⟨fun h => (wo_none.mp h).elim, fun h => (by cases h.1)⟩
  | brk => exact propext ⟨fun h => (wo_none.mp h).elim, fun h => (by cases h.1)⟩
  | cnt => exact propext ⟨fun h => (wo_none.mp h).elim, fun h => (by cases h.1)⟩
end
end Dm
set_option maxHeartbeats 4000000
namespace Lw
open PySem Dn Dm DnSo
end Lw
set_option maxHeartbeats 4000000
namespace Lw
open PySem Dn Dm DnSo
end Lw
set_option maxHeartbeats 4000000
namespace Lw
open PySem PySem.Spec PyProof.Rows L2 Dn Dm DnSo
end Lw
set_option maxHeartbeats 2000000
namespace Dm
open PySem Dn
def eitherQ {α : Type} (Q : α → Env → Prop) (R : Xc → Env → Prop) : α ⊕ Xc → Env → Prop
  | .inl a, ρ => Q a ρ
  | .inr x, ρ => R x ρ
def Wx {α : Type} (g : Mx α) (ρ : Env) (Q : α → Env → Prop) (R : Xc → Env → Prop) : Prop := Wo (g ρ) fun p => eitherQ Q R p.1 p.2
section
variable {α β : Type} {ρ : Env} {Q : α → Env → Prop} {R : Xc → Env → Prop}
theorem either_l {a : α} : eitherQ Q R (.inl a) ρ ↔ Q a ρ := Iff.rfl
theorem either_r {x : Xc} : eitherQ Q R (.inr x) ρ ↔ R x ρ := Iff.rfl
theorem wx_ok {g : Md α} : Wx (xOk g) ρ Q R ↔ Wm g ρ Q := by
  unfold Wx xOk Wm
  simp only [wo_bind, wo_some]
  exact Iff.rfl
theorem wx_okD {g : Md D} {Q : D → Env → Prop} : Wx (xOk g) ρ Q R ↔ Wm g ρ Q := wx_ok
theorem wx_okL {g : Md (List D)} {Q : List D → Env → Prop} : Wx (xOk g) ρ Q R ↔ Wm g ρ Q := wx_ok
theorem wx_okB {g : Md Bool} {Q : Bool → Env → Prop} : Wx (xOk g) ρ Q R ↔ Wm g ρ Q := wx_ok
theorem wx_okS {g : Sd} {Q : Fl → Env → Prop} : Wx (xOk g) ρ Q R ↔ Ws g ρ Q := by
  unfold Wx xOk Ws
  simp only [wo_bind, wo_some]
  exact Iff.rfl
theorem wx_bind {g : Mx α} {k : α → Mx β} {Q : β → Env → Prop} : Wx (xBind g k) ρ Q R ↔ Wx g ρ (fun a ρ1 => Wx (k a) ρ1 Q R) R := by
  unfold Wx xBind
  rw [wo_bind]
  refine Iff.of_eq (congrArg _ (funext fun p => ?_))
  obtain ⟨f, ρ1⟩ := p
  cases f with
  | inl a => rfl
  | inr x => exact propext wo_some
theorem wx_pure {o : Option α} : Wx (xPure o) ρ Q R ↔ Wo o fun a => Q a ρ := by
  unfold Wx xPure
  simp only [wo_bind, wo_some]
  exact Iff.rfl
theorem wx_lift {o : Option (α ⊕ Xc)} : Wx (xLift o) ρ Q R ↔ Wo o fun a => eitherQ Q R a ρ := by
  unfold Wx xLift
  simp only [wo_bind, wo_some]
theorem wx_ite {c : Prop} [Decidable c] {a b : Mx α} : Wx (if c then a else b) ρ Q R ↔ if c then Wx a ρ Q R else Wx b ρ Q R := by
  by_cases h : c
  · rw [if_pos h, if_pos h]
  · rw [if_neg h, if_neg h]
theorem wx_cons {g : Mx D} {gs : Mx (List D)} {Q : List D → Env → Prop} : Wx (xCons g gs) ρ Q R ↔ Wx g ρ (fun d ρ1 => Wx gs ρ1 (fun ds ρ2 => Q (d :: ds) ρ2) R) R := by
  unfold xCons
  simp only [wx_bind, wx_pure, wo_some]
theorem wx_call {f : List D → Option (D ⊕ Xc)} {gs : Mx (List D)} {Q : D → Env → Prop} : Wx (xCall f gs) ρ Q R ↔ Wx gs ρ (fun ds ρ1 => Wo (f ds) fun r => eitherQ Q R r ρ1) R := by
  unfold xCall
  simp only [wx_bind, wx_lift]
theorem wx_app {f : List D → Option D} {gs : Mx (List D)} {Q : D → Env → Prop} : Wx (xApp f gs) ρ Q R ↔ Wx gs ρ (fun ds ρ1 => Wo (f ds) fun r => Q r ρ1) R := by
  unfold xApp
  simp only [wx_bind, wx_pure]
theorem wx_bin {f : D → D → Option D} {a b : Mx D} {Q : D → Env → Prop} : Wx (xBin f a b) ρ Q R ↔ Wx a ρ (fun x ρ1 => Wx b ρ1 (fun y ρ2 => Wo (f x y) fun r => Q r ρ2) R) R := by
  unfold xBin
  simp only [wx_bind, wx_pure]
theorem wx_tst {a : Mx D} {Q : Bool → Env → Prop} : Wx (xTst a) ρ Q R ↔ Wx a ρ (fun x ρ1 => Wo (bOf x) fun r => Q r ρ1) R := by
  unfold xTst
  simp only [wx_bind, wx_pure]
theorem wx_not {a : Mx Bool} {Q : Bool → Env → Prop} : Wx (xNot a) ρ Q R ↔ Wx a ρ (fun x ρ1 => Q (!x) ρ1) R := by
  unfold xNot
  simp only [wx_bind, wx_pure, wo_some]
def thenX (t : Sx) (Q : Fl → Env → Prop) (R : Xc → Env → Prop) : Fl → Env → Prop
  | .nx, ρ => Wx t ρ Q R
  | .ret d, ρ => Q (.ret d) ρ
  | .rof d, ρ => Q (.rof d) ρ
  | .brk, ρ => Q .brk ρ
  | .cnt, ρ => Q .cnt ρ
variable {S : Fl → Env → Prop}
theorem thenx_nx {t : Sx} : thenX t S R .nx ρ ↔ Wx t ρ S R := Iff.rfl
theorem thenx_ret {t : Sx} {d : D} : thenX t S R (.ret d) ρ ↔ S (.ret d) ρ := Iff.rfl
theorem thenx_rof {t : Sx} {d : D} : thenX t S R (.rof d) ρ ↔ S (.rof d) ρ := Iff.rfl
theorem thenx_brk {t : Sx} : thenX t S R .brk ρ ↔ S .brk ρ := Iff.rfl
theorem thenx_cnt {t : Sx} : thenX t S R .cnt ρ ↔ S .cnt ρ := Iff.rfl
theorem wx_seq {s t : Sx} : Wx (xSeq s t) ρ S R ↔ Wx s ρ (thenX t S R) R := by
  unfold Wx xSeq
  rw [wo_bind]
  refine Iff.of_eq (congrArg _ (funext fun p => ?_))
  obtain ⟨f, ρ1⟩ := p
  cases f with
  | inr x => exact propext wo_some
  | inl f =>
    cases f with
    | nx => rfl
    | ret d => exact propext wo_some
    | rof d => exact propext wo_some
    | brk => exact propext wo_some
    | cnt => exact propext wo_some
theorem wx_if {g : Mx Bool} {s t : Sx} : Wx (xIf g s t) ρ S R ↔ Wx g ρ (fun b ρ1 => if b = true then Wx s ρ1 S R else Wx t ρ1 S R) R := by
  unfold xIf
  simp only [wx_bind, wx_ite]
theorem wx_ret {g : Mx D} : Wx (xRet g) ρ S R ↔ Wx g ρ (fun d ρ1 => S (.ret d) ρ1) R := by
  unfold xRet
  simp only [wx_bind, wx_pure, wo_some]
theorem wx_drop {g : Mx D} : Wx (xDrop g) ρ S R ↔ Wx g ρ (fun d ρ1 => S .nx ρ1) R := by
  unfold xDrop
  simp only [wx_bind, wx_pure, wo_some]
theorem wx_set {i : Nat} {g : Mx D} : Wx (xSet i g) ρ S R ↔ Wx g ρ (fun d ρ1 => Wo (canSet ρ1[i]?) fun _ => S .nx (ρ1.set i (some (.val d)))) R := by
  unfold xSet
  rw [wx_bind]
  have e : ∀ d ρ1, Wx (fun ρ => (setC i (.val d) ρ).bind fun r => some ((.inl .nx : Fl ⊕ Xc), r)) ρ1 S R ↔ Wo (canSet ρ1[i]?) fun _ => S .nx (ρ1.set i (some (.val d))) := fun d ρ1 => by
    unfold Wx
    simp only [wo_bind, wo_some, setC_eq]
    exact Iff.rfl
  simp only [e]
theorem wx_apd {i : Nat} {g : Mx D} : Wx (xApd i g) ρ S R ↔ Wo (ownL ρ[i]?) fun _ => Wx g ρ (fun d ρ1 => Wo (ownL ρ1[i]?) fun p => p.2.length < 16777216 ∧ S .nx (ρ1.set i (some (.own p.1 (.list (p.2 ++ [d])))))) R := by
  have e : ∀ d ρ1, Wx (fun ρ1 : Env => (ownL ρ1[i]?).bind fun p => if p.2.length < 16777216 then some ((.inl .nx : Fl ⊕ Xc), ρ1.set i (some (.own p.1 (.list (p.2 ++ [d]))))) else none) ρ1 S R ↔ Wo (ownL ρ1[i]?) fun p => p.2.length < 16777216 ∧ S .nx (ρ1.set i (some (.own p.1 (.list (p.2 ++ [d]))))) := fun d ρ1 => by
    unfold Wx
    rw [wo_bind]
    refine Iff.of_eq (congrArg _ (funext fun p => propext ?_))
    by_cases q : p.2.length < 16777216
    · rw [if_pos q, wo_some]
      simp [q, eitherQ]
    · rw [if_neg q, wo_none]
      simp [q]
  unfold xApd
  have e2 : ∀ (u : Bool × List D), Wx (xBind g fun d ρ1 => (ownL ρ1[i]?).bind fun p => if p.2.length < 16777216 then some ((.inl .nx : Fl ⊕ Xc), ρ1.set i (some (.own p.1 (.list (p.2 ++ [d]))))) else none) ρ S R ↔ Wx g ρ (fun d ρ1 => Wo (ownL ρ1[i]?) fun p => p.2.length < 16777216 ∧ S .nx (ρ1.set i (some (.own p.1 (.list (p.2 ++ [d])))))) R := fun _ => by
    rw [wx_bind]
    simp only [e]
  unfold Wx at e2 ⊢
  rw [wo_bind]
  exact Iff.of_eq (congrArg _ (funext fun u => propext (e2 u)))
def strOf : D → Option Str
  | .str m => some m
  | _ => none
theorem strOf_s {m : Str} : strOf (.str m) = some m := rfl
theorem wx_raise {n : Str} {g : Md D} : Wx (xRaise n g) ρ S R ↔ Wm g ρ fun d ρ1 => Wo (strOf d) fun m => R ⟨n, m⟩ ρ1 := by
  unfold Wx xRaise Wm
  rw [wo_bind]
  refine Iff.of_eq (congrArg _ (funext fun p => ?_))
  obtain ⟨d, ρ1⟩ := p
  cases d <;> (refine propext ?_; simp only [strOf, wo_some, wo_none]; try exact Iff.rfl)
theorem wx_for {gi : Md (List D)} {tg : D → Env → Option Env} {b : Sx} : Wx (xFor gi tg b) ρ S R ↔ Wm gi ρ fun ds ρ1 => Wx (forX tg b ds) ρ1 S R := by
  unfold Wx Wm xFor
  rw [wo_bind]
theorem forx_nil {tg : D → Env → Option Env} {b : Sx} : Wx (forX tg b []) ρ S R ↔ S .nx ρ := wo_some
def turnX (t : Sx) (S : Fl → Env → Prop) (R : Xc → Env → Prop) : Fl → Env → Prop
  | .nx, ρ => Wx t ρ S R
  | .cnt, ρ => Wx t ρ S R
  | .brk, ρ => S .nx ρ
  | .ret d, ρ => S (.ret d) ρ
  | .rof d, ρ => S (.rof d) ρ
theorem forx_cons {tg : D → Env → Option Env} {b : Sx} {d : D} {ds : List D} : Wx (forX tg b (d :: ds)) ρ S R ↔ Wo (tg d ρ) fun ρ1 => Wx b ρ1 (turnX (forX tg b ds) S R) R := by
  unfold Wx
  show Wo ((tg d ρ).bind fun ρ1 => (b ρ1).bind _) _ ↔ _
  rw [wo_bind]
  refine Iff.of_eq (congrArg _ (funext fun ρ1 => ?_))
  rw [wo_bind]
  refine congrArg _ (funext fun p => ?_)
  obtain ⟨f, ρ2⟩ := p
  cases f with
  | inr x => exact propext wo_some
  | inl f =>
    cases f with
    | nx => rfl
    | cnt => rfl
    | brk => exact propext wo_some
    | ret d => exact propext wo_some
    | rof d => exact propext wo_some
theorem wx_mono {g : Mx α} {Q' : α → Env → Prop} {R' : Xc → Env → Prop} (h : Wx g ρ Q R) (i : ∀ a ρ', Q a ρ' → Q' a ρ') (j : ∀ x ρ', R x ρ' → R' x ρ') : Wx g ρ Q' R' := wo_mono h fun p q => by
  obtain ⟨f, ρ1⟩ := p
  cases f with
  | inl a => exact i a ρ1 q
  | inr x => exact j x ρ1 q
theorem ws_noX {g : Sx} : Ws (noX g) ρ S ↔ Wx g ρ S fun _ _ => False := by
  unfold Ws Wx noX
  rw [wo_bind]
  refine Iff.of_eq (congrArg _ (funext fun p => ?_))
  obtain ⟨f, ρ1⟩ := p
  cases f with
  | inl f => exact propext wo_some
  | inr x => exact propext (wo_none.trans Iff.rfl)
theorem wx_try {h : Str → Option Bool} {gb : Sx} {gs : Xc → Sd} : Wx (xTry h gb gs) ρ S R ↔ Wx gb ρ S fun x ρ1 => Wo (h x.c) fun b => if b = true then Ws (gs x) ρ1 S else R x ρ1 := by
  unfold Wx xTry
  rw [wo_bind]
  refine Iff.of_eq (congrArg _ (funext fun p => ?_))
  obtain ⟨f, ρ1⟩ := p
  cases f with
  | inl f => exact propext wo_some
  | inr x =>
    refine propext ?_
    show Wo ((h x.c).bind _) _ ↔ Wo (h x.c) _
    rw [wo_bind]
    refine Iff.of_eq (congrArg _ (funext fun b => ?_))
    cases b with
    | true => exact propext wx_okS
    | false => exact propext wo_some
def retQ (S : Fl → Env → Prop) : Fl → Env → Prop
  | .ret d, ρ => S (.ret d) ρ
  | _, _ => False
theorem retq_ret {d : D} : retQ S (.ret d) ρ ↔ S (.ret d) ρ := Iff.rfl
theorem ws_clear {i : Nat} {g : Sd} : Ws (clearS i g) ρ S ↔ (notOwn ρ i = true ∧ i < ρ.length) ∧ Ws g (ρ.set i none) (retQ S) := by
  unfold Ws clearS
  by_cases h : notOwn ρ i = true ∧ i < ρ.length
  · rw [if_pos h, wo_bind]
    simp only [h, and_self, true_and]
    refine Iff.of_eq (congrArg _ (funext fun p => ?_))
    obtain ⟨f, ρ1⟩ := p
    cases f with
    | ret d => exact propext wo_some
    | nx => exact propext wo_none
    | brk => exact propext wo_none
    | cnt => exact propext wo_none
    | rof d => exact propext wo_none
  · rw [if_neg h, wo_none]
    simp [h]
theorem wx_tryA {i : Nat} {h : Str → Option Bool} {gb : Sx} {gs : Xc → Sd} : Wx (xTryA i h gb gs) ρ S R ↔ Wx gb ρ S fun x ρ1 => Wo (h x.c) fun b => if b = true then (notOwn ρ1 i = true ∧ i < ρ1.length) ∧ Ws (gs x) (ρ1.set i none) (retQ S) else R x ρ1 := by
  unfold xTryA
  rw [wx_try]
  simp only [ws_clear]
/-- a def's answer -/
def endQ (Q : D ⊕ Xc → Prop) : Fl → Env → Prop
  | .nx, _ => Q (.inl .none)
  | .ret d, _ => Q (.inl d)
  | _, _ => False
theorem endq_nx {Q : D ⊕ Xc → Prop} : endQ Q .nx ρ ↔ Q (.inl .none) := Iff.rfl
theorem endq_ret {Q : D ⊕ Xc → Prop} {d : D} : endQ Q (.ret d) ρ ↔ Q (.inl d) := Iff.rfl
theorem wo_runX {N : Nat} {g : Sx} {ds : List D} {Q : D ⊕ Xc → Prop} : Wo (runX N g ds) Q ↔ Wx g (envV N ds) (endQ Q) fun x _ => Q (.inr x) := by
  unfold Wx runX
  rw [wo_bind]
  refine Iff.of_eq (congrArg _ (funext fun p => ?_))
  obtain ⟨f, ρ1⟩ := p
  cases f with
  | inr x => exact propext wo_some
  | inl f =>
    cases f with
    | nx => exact propext wo_some
    | ret d => exact propext wo_some
    | rof d => exact propext wo_none
    | brk => exact propext wo_none
    | cnt => exact propext wo_none
theorem forx_go {α : Type} (h : α → D) {tg : D → Env → Option Env} {b : Sx} (I : List α → Env → Prop) : ∀ (xs p : List α) (ρ : Env), I p ρ →
    (∀ (q : List α) (x : α) (r : List α) (ρ : Env), p ++ xs = q ++ x :: r → I q ρ → Wo (tg (h x) ρ) fun ρ1 => Wx b ρ1 (stepQ (I (q ++ [x])) S) R) →
    (∀ ρ', I (p ++ xs) ρ' → S .nx ρ') → Wx (forX tg b (xs.map h)) ρ S R
  | [], p, ρ, h0, _, fin => forx_nil.mpr (fin ρ (by rw [List.append_nil]; exact h0))
  | x :: xs, p, ρ, h0, st, fin => by
    rw [List.map_cons, forx_cons]
    refine wo_mono (st p x xs ρ rfl h0) fun ρ1 h1 => wx_mono h1 (fun f ρ2 h2 => ?_) fun _ _ z => z
    have go : I (p ++ [x]) ρ2 → Wx (forX tg b (xs.map h)) ρ2 S R := fun h3 => forx_go h I xs (p ++ [x]) ρ2 h3 (fun q y r ρ' e => st q y r ρ' (by rw [← e]; simp)) fun ρ' h4 => fin ρ' (by simpa using h4)
    cases f with
    | nx => exact go h2
    | cnt => exact go h2
    | brk => exact h2
    | ret d => exact h2
    | rof d => exact h2
theorem wx_forA {α : Type} (h : α → D) {xs : List α} {tg : D → Env → Option Env} {b : Sx} (I : List α → Env → Prop) (h0 : I [] ρ)
    (st : ∀ (q : List α) (x : α) (r : List α) (ρ : Env), xs = q ++ x :: r → I q ρ → Wo (tg (h x) ρ) fun ρ1 => Wx b ρ1 (stepQ (I (q ++ [x])) S) R)
    (fin : ∀ ρ', I xs ρ' → S .nx ρ') : Wx (forX tg b (xs.map h)) ρ S R := forx_go h I xs [] ρ h0 st fin
theorem hL_hd {n : Str} {b : Bool} {g : Str → Sd} {l : List (Str × Bool × (Str → Sd))} : hL ((n, b, g) :: l) n = some b := by
  unfold hL
  rw [lookup_hd, if_pos rfl]
  rfl
theorem gL_hd {n m : Str} {b : Bool} {g : Str → Sd} {l : List (Str × Bool × (Str → Sd))} : gL ((n, b, g) :: l) ⟨n, m⟩ = g m := by
  unfold gL
  rw [lookup_hd, if_pos rfl]
end
end Dm
set_option maxHeartbeats 2000000
namespace Dm
open PySem Dn
section
variable {ρ : Env} {R : Xc → Env → Prop}
def Wl (vs : List Nat) (tg : D → Env → Option Env) (tt : Md Bool) (te : Mx D) (ds : List D) (ρ : Env) (Q : List D → Env → Prop) (R : Xc → Env → Prop) : Prop := Wo (lcX vs tg tt te ds ρ) fun p => eitherQ Q R p.1 p.2
theorem wx_own {i : Nat} {g : Mx D} {S : Fl → Env → Prop} : Wx (xOwn i g) ρ S R ↔ Wx g ρ (fun d ρ1 => Wo (canSet ρ1[i]?) fun _ => S .nx (ρ1.set i (some (.own false d)))) R := by
  unfold xOwn
  rw [wx_bind]
  have e : ∀ d ρ1, Wx (fun ρ => (setC i (.own false d) ρ).bind fun r => some ((.inl .nx : Fl ⊕ Xc), r)) ρ1 S R ↔ Wo (canSet ρ1[i]?) fun _ => S .nx (ρ1.set i (some (.own false d))) := fun d ρ1 => by
    unfold Wx
    simp only [wo_bind, wo_some, setC_eq]
    exact Iff.rfl
  simp only [e]
variable {vs : List Nat} {tg : D → Env → Option Env} {tt : Md Bool} {te : Mx D}
theorem wl_nil {Q : List D → Env → Prop} : Wl vs tg tt te [] ρ Q R ↔ Q [] ρ := wo_some
theorem wl_cons {d : D} {ds : List D} {Q : List D → Env → Prop} : Wl vs tg tt te (d :: ds) ρ Q R ↔ Wo (tg d ρ) fun ρ1 => Wm tt ρ1 fun b ρ2 => if b = true then Wx te ρ2 (fun y ρ3 => Wl vs tg tt te ds (wipeE ρ3 vs) (fun l ρ4 => Q (y :: l) ρ4) R) (fun x ρ3 => R x (wipeE ρ3 vs)) else Wl vs tg tt te ds (wipeE ρ2 vs) Q R := by
  unfold Wl
  show Wo ((tg d ρ).bind fun ρ1 => (tt ρ1).bind fun p => if p.1 = true then (te p.2).bind _ else lcX vs tg tt te ds (wipeE p.2 vs)) _ ↔ _
  rw [wo_bind]
  refine Iff.of_eq (congrArg _ (funext fun ρ1 => ?_))
  rw [wo_bind]
  refine congrArg _ (funext fun p => ?_)
  obtain ⟨b, ρ2⟩ := p
  cases b with
  | false => rfl
  | true =>
    show Wo ((te ρ2).bind _) _ = Wx te ρ2 _ _
    unfold Wx
    rw [wo_bind]
    refine congrArg _ (funext fun p => ?_)
    obtain ⟨r, ρ3⟩ := p
    cases r with
    | inr x => exact propext wo_some
    | inl y =>
      refine propext ?_
      show Wo ((lcX vs tg tt te ds (wipeE ρ3 vs)).bind fun r => some (xapp [y] r.1, r.2)) _ ↔ Wo (lcX vs tg tt te ds (wipeE ρ3 vs)) _
      rw [wo_bind]
      refine Iff.of_eq (congrArg _ (funext fun p => ?_))
      obtain ⟨r, ρ4⟩ := p
      cases r with
      | inl l => exact propext wo_some
      | inr x => exact propext wo_some
theorem wx_lc {gi : Md (List D)} {Q : D → Env → Prop} : Wx (xLc vs gi tg tt te) ρ Q R ↔ Wm gi ρ fun ds ρ1 => (ds.length ≤ 16777216 ∧ vs.all (notOwn ρ1) = true) ∧ Wl vs tg tt te ds (wipeE ρ1 vs) (fun l ρ2 => Q (.list l) (backE ρ1 vs ρ2)) (fun x ρ2 => R x (backE ρ1 vs ρ2)) := by
  unfold Wx xLc Wm
  rw [wo_bind]
  refine Iff.of_eq (congrArg _ (funext fun p => propext ?_))
  obtain ⟨ds, ρ1⟩ := p
  by_cases h : ds.length ≤ 16777216 ∧ vs.all (notOwn ρ1) = true
  · simp only [h, and_self, ↓reduceIte, true_and, wo_bind]
    refine Iff.of_eq (congrArg _ (funext fun p => ?_))
    obtain ⟨r, ρ2⟩ := p
    cases r with
    | inl l => exact propext wo_some
    | inr x => exact propext wo_some
  · simp only [h, ↓reduceIte, wo_none, false_and]
theorem wm_callIOF {f : D → List D → Option (D × D)} {g : Md D} {Q : D → Env → Prop} : Wm (gCallIOF f g) ρ Q ↔ Wm g ρ fun d ρ1 => Wo (f d []) fun r => Q r.1 ρ1 := by
  unfold Wm gCallIOF
  simp only [wo_bind, wo_some]
end
def keysE : D → Option (List D)
  | .dict es => if dkOk es = true then some (keysU es) else none
  | _ => none
theorem wm_keys {g : Md D} {ρ : Env} {Q : List D → Env → Prop} : Wm (gKeys g) ρ Q ↔ Wm g ρ fun d ρ1 => Wo (keysE d) fun ds => Q ds ρ1 := by
  unfold Wm gKeys
  rw [wo_bind]
  refine Iff.of_eq (congrArg _ (funext fun p => ?_))
  obtain ⟨d, ρ1⟩ := p
  cases d with
  | dict es =>
    refine propext ?_
    show Wo (if dkOk es = true then some (keysU es, ρ1) else none) _ ↔ Wo (if dkOk es = true then some (keysU es) else none) _
    by_cases h : dkOk es = true
    · rw [if_pos h, if_pos h, wo_some, wo_some]
    · rw [if_neg h, if_neg h, wo_none, wo_none]
  | none => exact propext (wo_none.trans wo_none.symm)
  | bool _ => exact propext (wo_none.trans wo_none.symm)
  | int _ => exact propext (wo_none.trans wo_none.symm)
  | str _ => exact propext (wo_none.trans wo_none.symm)
  | list _ => exact propext (wo_none.trans wo_none.symm)
  | tuple _ => exact propext (wo_none.trans wo_none.symm)
theorem keysOk_of {es fs : List (D × D)} (h : es.map (·.1) = fs.map (·.1)) : keysOk es = keysOk fs := by
  have e1 : ∀ es : List (D × D), (es.all fun p => (keyOf p.1).isSome) = ((es.map (·.1)).all fun d => (keyOf d).isSome) := fun es => by rw [List.all_map]; rfl
  have e2 : ∀ es : List (D × D), (es.map fun p => keyOf p.1) = (es.map (·.1)).map keyOf := fun es => by rw [List.map_map]; rfl
  have e3 : ∀ es : List (D × D), es.length = (es.map (·.1)).length := fun es => (List.length_map _).symm
  unfold keysOk
  rw [e1 es, e1 fs, e2 es, e2 fs, e3 es, e3 fs, h]
end Dm
namespace Dn
open PySem PySem.Spec PyProof.Rows L2
/-- {x} in an f-string -/
def fmtD : D → Option D
  | .str y => if y.length ≤ 16777216 then some (.str y) else none
  | .int i => if i.natAbs.log2 < 1920 then some (.str (toString i)) else none
  | _ => none
def gFmt (ga : Md D) : Md D := fun ρ => (ga ρ).bind fun p => (fmtD p.1).bind fun z => some (z, p.2)
/-- a part is joined -/
def jsD (acc : Str) : D → Option Str
  | .str y => if (acc ++ y).length ≤ 16777216 then some (acc ++ y) else none
  | _ => none
def gJs : List (Md D) → Str → Md D
  | [], acc, ρ => some (.str acc, ρ)
  | g :: gs, acc, ρ => (g ρ).bind fun p => (jsD acc p.1).bind fun a => gJs gs a p.2
section
variable {X : Cx}
theorem de_fmt {e : Expr} {ga : Md D} {pos : Pos} (ha : DE X e ga) : DE X (.FormattedValue e (-1) none pos) (gFmt ga) :=
  pe_imp (pe_fmt ha) fun σ H Q q => by
    obtain ⟨F, ρ, d, ρ', s, eg, k⟩ := q
    obtain ⟨⟨x, ρ1⟩, e1, eg⟩ := bind_some eg
    obtain ⟨z, e3, eg⟩ := bind_some eg
    cases eg
    refine ⟨F, ρ, x, ρ1, s, e1, fun v F1 H1 p1 s1 r1 => ?_⟩
    replace e3 : fmtD x = some _ := e3
    unfold fmtD at e3
    split at e3
    · skip
      split at e3
      · rename_i hz
        cases e3
        cases r1
        exact .inl ⟨_, rfl, hz, k _ F1 H1 p1 s1 (.str _)⟩
      · cases e3
    · skip
      split at e3
      · rename_i hz
        cases e3
        cases r1
        exact .inr ⟨_, rfl, hz, k _ F1 H1 p1 s1 (.str _)⟩
      · cases e3
    · cases e3
inductive DJ (X : Cx) : List Expr → List (Md D) → Prop where
  | nil : DJ X [] []
  | cons {e : Expr} {g : Md D} {es : List Expr} {gs : List (Md D)} (h : DE X e g) (r : DJ X es gs) : DJ X (e :: es) (g :: gs)
theorem dj_pj {es : List Expr} {gs : List (Md D)} (h : DJ X es gs) : PJ X es (gs.map (tD (cxK X))) := by
  induction h with
  | nil => exact .nil
  | cons h r ih => exact .cons h ih
theorem js_q {Q : VK} : ∀ (gs : List (Md D)) (acc : Str) (σ : L2.St) (H : Hp) (F : Hp) (ρ : Env) (d : D) (ρ' : Env), St (cxK X) F H σ ρ → gJs gs acc ρ = some (d, ρ') → (∀ v F' H', Stp F σ ρ H F' σ ρ' H' → St (cxK X) F' H' σ ρ' → Rp (cxK X) F' v d → Q v H') → tJs (gs.map (tD (cxK X))) acc σ H fun out H1 => Q (.str out) H1
  | [], acc, σ, H, F, ρ, d, ρ', s, eg, k => by
    cases eg
    exact k (.str acc) F H ((Grow.refl s.sub).stp σ ρ) s (.str _)
  | g :: gs, acc, σ, H, F, ρ, d, ρ', s, eg, k => by
    obtain ⟨⟨x, ρ1⟩, e1, eg⟩ := bind_some eg
    obtain ⟨a, e3, eg⟩ := bind_some eg
    refine ⟨F, ρ, x, ρ1, s, e1, fun v F1 H1 p1 s1 r1 => ?_⟩
    replace e3 : jsD acc x = some a := e3
    unfold jsD at e3
    split at e3
    · skip
      split at e3
      · rename_i hz
        cases e3
        cases r1
        exact ⟨_, rfl, hz, js_q gs _ σ H1 F1 ρ1 d ρ' s1 eg fun v F' H' p s2 r => k v F' H' (p1.trans p) s2 r⟩
      · cases e3
    · cases e3
theorem de_js {v1 v2 : Expr} {rest : List Expr} {gs : List (Md D)} {pos : Pos} (h : DJ X (v1 :: v2 :: rest) gs) : DE X (.JoinedStr (v1 :: v2 :: rest) pos) (gJs gs Str.empty) :=
  pe_imp (pe_joined (dj_pj h)) fun σ H Q q => by
    obtain ⟨F, ρ, d, ρ', s, eg, k⟩ := q
    exact js_q gs Str.empty σ H F ρ d ρ' s eg k
end
end Dn
set_option maxHeartbeats 2000000
namespace Dn
open PySem PySem.Spec PyProof.Rows L2 DnSo SrtO
theorem rp_dk {K : Kx} {F : Hp} {y : V} {es : List (D × D)} (h : Rp K F y (.dict es)) (ne : es ≠ []) (ok : (es.all fun p => isKey p.1) = true) : ∃ a ob ks, y = .ref a ∧ F a = some (.frz ob (.dK ks)) ∧ RpKV K F ks es := by
  cases h with
  | @dic a ob ks _ h1 h2 _ => exact ⟨a, ob, ks, rfl, h1, h2⟩
  | dicE h1 => simp [isKey] at ok
  | dicN h1 h2 =>
    cases h2 with
    | nil => exact absurd rfl ne
    | cons hk h3 h4 h5 =>
      rw [List.all_cons, (nkD_key hk h3).1] at ok
      cases ok
def eqKV (fs : List (D × D)) : List (D × D) → Bool
  | [] => true
  | p :: es => match lkp fs p.1 with
    | none => false
    | some d => PyData.eqv p.2 d && eqKV fs es
def dicSh (es : List (D × D)) : Bool := !es.isEmpty && es.all fun p => isKey p.1 && SeqAt.shaped p.2
theorem dicSh_ok {es : List (D × D)} (h : dicSh es = true) : es ≠ [] ∧ (es.all fun p => isKey p.1) = true ∧ ∀ p ∈ es, SeqAt.shaped p.2 = true := by
  unfold dicSh at h
  rw [Bool.and_eq_true, List.all_eq_true] at h
  refine ⟨fun z => ?_, ?_, fun p hp => ?_⟩
  · rw [z] at h
    cases h.1
  · rw [List.all_eq_true]
    intro p hp
    have := h.2 p hp
    rw [Bool.and_eq_true] at this
    exact this.1
  · have := h.2 p hp
    rw [Bool.and_eq_true] at this
    exact this.2
def eqU2 (es fs : List (D × D)) : Bool := es.length == fs.length && eqKV fs es
theorem lkp_mem {k d : D} : ∀ {fs : List (D × D)}, lkp fs k = some d → ∃ p ∈ fs, p.2 = d
  | [], h => by cases h
  | (a, b) :: fs, h => by
    unfold lkp at h
    split at h
    · cases h
      exact ⟨_, List.mem_cons_self, rfl⟩
    · obtain ⟨p, hp, e⟩ := lkp_mem h
      exact ⟨p, List.mem_cons_of_mem _ hp, e⟩
section
variable {X : Cx} {pos p : Pos} {x y : Str} {py : Pos}
theorem hits_data {pins : List (Addr × Obj)} {s : Shared} {σ : L2.St} {F H : Hp} (I : Inv X pins σ H s) (sf : Same F H) (hu : X.A.in1.units + 64 < cLine) {ls : List (Key × V)} {fs : List (D × D)} {vb : List (Key × Value)} (rl : RpKV (cxK X) F ls fs) (kb : KV ls vb) (sh2 : ∀ p ∈ fs, SeqAt.shaped p.2 = true) :
    ∀ {ks : List (Key × V)} {es : List (D × D)} {va : List (Key × Value)}, RpKV (cxK X) F ks es → KV ks va → (∀ p ∈ es, SeqAt.shaped p.2 = true) → PySem.W.KeqHits X.A.in1 s vb va (eqKV fs es)
  | _, _, _, .nil, k, _ => by
    cases k
    exact .nil
  | _, _, _, @RpKV.cons _ _ k0 v ks d es h1 h2, k, sh => by
    cases k with
    | @cons _ q _ qs hq t =>
      obtain ⟨key, u⟩ := q
      obtain ⟨e1, r1⟩ := hq
      have e1' : k0 = key := e1
      subst e1'
      have rr : RelO (valV ls k0) (valueAt vb k0) := kb.val k0
      unfold eqKV
      rcases rpKV_look rl k0 with ⟨z1, z2⟩ | ⟨w, dd, z1, z2, z3⟩
      · rw [z2]
        rw [z1] at rr
        have hn : valueAt vb k0 = none := by
          cases q : valueAt vb k0 with
          | none => rfl
          | some _ => rw [q] at rr; exact rr.elim
        exact .miss hn
      · rw [z2]
        rw [z1] at rr
        obtain ⟨y, hy, ry⟩ := rr.some_of
        have sd := sh _ List.mem_cons_self
        obtain ⟨p2, m2, e2⟩ := lkp_mem z2
        have se : SeqAt.shaped dd = true := e2 ▸ sh2 p2 m2
        obtain ⟨as, ra⟩ := Dp.reads I d v u (rp_dp (dp_mono sf _ _ h1) (SeqAt.canLay_of_shaped sd)) r1
        obtain ⟨bs, rb⟩ := Dp.reads I dd w y (rp_dp (dp_mono sf _ _ z3) (SeqAt.canLay_of_shaped se)) ry
        exact .hit hy (PySem.W.keq_at ra rb sd se hu) (hits_data I sf hu rl kb sh2 h2 t fun p hp => sh p (List.mem_cons_of_mem _ hp))
theorem kv_len {K : Kx} {F : Hp} {ks : List (Key × V)} {es : List (D × D)} {va : List (Key × Value)} (r : RpKV K F ks es) (k : KV ks va) : va.length = es.length := by rw [← Paired.length k, rpKV_len r]
def neDU (d e : D) : Option D := match d, e with
  | .dict es, .dict fs => if dicSh es = true ∧ dicSh fs = true then some (.bool (!eqU2 es fs)) else none
  | _, _ => none
theorem op_neDU (hu : X.A.units + 65 < cLine) : OpR X (compareOp .NotEq) (rP2 (cxK X) neDU) := by
  intro pins s σ H x y v u Q I rx ry h
  obtain ⟨F, d, e, r, sf, hd, he, ef, k⟩ := h
  unfold neDU at ef
  split at ef
  · rename_i es fs
    split at ef
    · rename_i ok
      cases ef
      obtain ⟨n1, k1, s1⟩ := dicSh_ok ok.1
      obtain ⟨n2, k2, s2⟩ := dicSh_ok ok.2
      obtain ⟨a, oa, ks, rfl, ha, ra⟩ := rp_dk hd n1 k1
      obtain ⟨b, ob, ls, rfl, hb, rb⟩ := rp_dk he n2 k2
      obtain rfl : v = Value.ref a := rx
      obtain rfl : u = Value.ref b := ry
      obtain ⟨_, _, ya, va, kva, da⟩ := I.hok a _ (sf _ _ ha)
      obtain ⟨_, _, yb, vb, kvb, db⟩ := I.hok b _ (sf _ _ hb)
      refine PySem.W.keq_ne (knd := mixKind X.prog X.w) (r := eqKV fs es) ya yb da db (by omega) (fun _ => hits_data I sf (by show X.A.units + 1 + 64 < cLine; omega) rb kvb s2 ra kva s1) ⟨.bl _, H, I, rfl, ?_⟩
      rw [kv_len ra kva, kv_len rb kvb]
      exact k _ F H (Grow.refl sf) (.bl _)
    · cases ef
  · cases ef
theorem paired_of_get {α β : Type} {G : α → β → Prop} : ∀ {l₁ : List α} {l₂ : List β}, l₁.length = l₂.length → (∀ (i : Nat) (a : α) (b : β), l₁[i]? = some a → l₂[i]? = some b → G a b) → Paired G l₁ l₂
  | [], [], _, _ => .nil
  | [], _ :: _, h, _ => by cases h
  | _ :: _, [], h, _ => by cases h
  | a :: l₁, b :: l₂, h, k => .cons (k 0 a b rfl rfl) (paired_of_get (Nat.succ.inj h) fun i x y h1 h2 => k (i + 1) x y h1 h2)
theorem keyIs_rel {P : Program} {w : World} {k : Key} {v : Value} (h : (mixKind P w).is k v = true) : RelV (kV k) v := by
  rcases keyIs_shape h with ⟨i, t, rfl, rfl⟩ | ⟨x, t, rfl, rfl⟩
  · exact ⟨t, rfl⟩
  · exact ⟨t, rfl⟩
theorem triK {K : Kx} {F : Hp} : ∀ {es : List (D × D)} {ks : List (Key × V)} {us : List Value}, RpKV K F ks es → Paired (fun (q : Key × V) (u : Value) => RelV (kV q.1) u) ks us → Tri K F (ks.map fun q => kV q.1) us (es.map (·.1))
  | [], _, _, r, p => by
    cases r
    cases p
    exact .nil
  | (dk, dv) :: es, _, _, r, p => by
    cases r with
    | @cons k0 _ _ _ _ h1 h2 =>
      cases p with
      | cons a b =>
        refine .cons a ?_ (triK h2 b)
        cases k0 with
        | inl i => exact .int i
        | inr x => exact .str x
def isS : D → Bool
  | .str _ => true
  | _ => false
def sortOkT (ds : List D) : Bool := decide (ds.length ≤ 16777216) && ds.all fun d => isS d && d.canLay0
theorem sortOkT_facts {ds : List D} (h : sortOkT ds = true) : ds.length ≤ 16777216 ∧ (∀ d ∈ ds, (ord0 d = true ∧ d.canLay0 = true) ∧ d.depth ≤ 8) ∧ ∀ d ∈ ds, isS d = true := by
  unfold sortOkT at h
  simp only [Bool.and_eq_true, List.all_eq_true, decide_eq_true_eq] at h
  refine ⟨h.1, fun d hd => ?_, fun d hd => (h.2 d hd).1⟩
  obtain ⟨h1, h2⟩ := h.2 d hd
  cases d <;> simp only [isS, Bool.false_eq_true] at h1
  exact ⟨⟨rfl, h2⟩, by simp [PyData.depth]⟩
def svOf : Value → Str
  | .str x _ => x
  | _ => Str.empty
theorem strs_sv : ∀ {vs : List Value}, (∀ v ∈ vs, ∃ (x : Str) (t : Tok), v = .str x t) → StrsAre vs (vs.map svOf)
  | [], _ => .nil
  | v :: vs, h => by
    obtain ⟨x, t, rfl⟩ := h v List.mem_cons_self
    exact .cons _ _ (strs_sv fun u hu => h u (List.mem_cons_of_mem _ hu))
theorem sortableS {prog : Program} {w : World} {A : Around} {s : Shared} {h0 : Heap} {a : Addr} {vs : List Value} {ds : List D} (hv : ∀ v ∈ vs, ∃ d as, d ∈ ds ∧ Reads h0 v d as) (ok : ∀ d ∈ ds, isS d = true) (h2 : 2 ≤ vs.length) : SrtO.SortableO prog w A s a vs (ltK h0) := by
  intro h' keep
  have hS : ∀ v ∈ vs, ∃ (x : Str) (t : Tok), v = .str x t := fun v hm => by
    obtain ⟨d, as, hd, r⟩ := hv v hm
    have hx := ok d hd
    cases d <;> simp only [isS, Bool.false_eq_true] at hx
    cases r
    exact ⟨_, _, rfl⟩
  have hSs : StrsAre vs (vs.map svOf) := strs_sv hS
  refine ⟨oneType', fun Q E hq => ?_, fun p q hm hm' => ?_⟩
  · match vs, hSs, h2 with
    | v1 :: v2 :: rest, hI, _ =>
      rw [keyKind_strs hI]
      exact wpAny_pure hq
    | [], _, h => exact absurd h (by decide)
    | [v], _, h => exact absurd h (by simp)
  · obtain ⟨d, as, hd1, r1⟩ := hv _ hm
    obtain ⟨e, bs, hd2, r2⟩ := hv _ hm'
    have t1 := ok d hd1
    have t2 := ok e hd2
    show wpAny (model prog w) A (keyLt' oneType' p.1 q.1) (fun r s' => s' = { s with heap := h' } ∧ r = ltK h0 p.1 q.1) (fun _ _ => False) { s with heap := h' }
    have e1 : ltK h0 p.1 q.1 = (cmp3 d e == .lt) := by
      unfold ltK
      rw [kOf_eq r1, kOf_eq r2]
    rw [e1]
    cases d <;> simp only [isS, Bool.false_eq_true] at t1
    cases e <;> simp only [isS, Bool.false_eq_true] at t2
    rename_i i j
    generalize p.1 = pv at r1 ⊢
    generalize q.1 = qv at r2 ⊢
    cases r1
    cases r2
    rw [keyLt'_oneType]
    refine oneLt_str ⟨rfl, ?_⟩
    exact cmp_of_ltB (.str i) (.str j) _ rfl rfl rfl
def rSrtK (X : Cx) : List V → Hp → VK → Prop := fun vs H Q => ∃ (a : Addr) (F : Hp) (ob : Obj) (ks : List (Key × V)) (es : List (D × D)), vs = [.ref a] ∧ Same F H ∧ F a = some (.frz ob (.dK ks)) ∧ RpKV (cxK X) F ks es ∧ sortOkT (es.map (·.1)) = true ∧
  ∀ b F' H', Grow F H F' H' → OwnN (cxK X) F' H' b (.list ((es.map (·.1)).mergeSort leD3)) → H b = none → Q (.ref b) H'
theorem call_sortK (hc : X.calm = true) (hu : X.A.units + 65 < cLine) : CallR X (.builtin "sorted") (rSrtK X) := by
  intro pins s σ H vs us Q I rx h
  obtain ⟨a, F, ob, ks, es, rfl, sf, ha, rk, ok, k⟩ := h
  obtain ⟨_, _, hm, va, kva, dH⟩ := I.hok a _ (sf _ _ ha)
  rw [Vals.ref1 rx]
  obtain ⟨hlen0, hdd, hok⟩ := sortOkT_facts ok
  have rd : ∀ x u d, d ∈ es.map (·.1) → RelV x u → Rp (cxK X) F x d → ∃ as, Reads s.heap u d as := fun x u d hd hr hp => Dp.reads I d x u (rp_dp (dp_mono sf _ _ hp) (hdd d hd).1.2) hr
  obtain ⟨es', ep, raw, hsz, hks⟩ := dH.raw
  have hyl : va.length = (es.map (·.1)).length := by rw [List.length_map, kv_len rk kva]
  have hn : es'.size ≤ sizeLine := by rw [hsz, hyl, line_eq]; exact hlen0
  refine Calls.call_function_entry kind_sorted plain_sorted entry_sorted (args_sorted1 _) ?_
  unfold Builtin.«sorted»
  refine wpAny_bind (m := checkCount "sorted" 1 1 _) (wpAny_pure ?_)
  refine wpAny_bind (coll_src (B := X.A.in1) (PySem.KdlSrc.rawDict hm) (I.ok.hd hc) raw hn fun h' tk acc hsl hk hacc => ?_)
  have hPu : Paired (fun (q : Key × V) (u : Value) => RelV (kV q.1) u) ks acc.toList := by
    have hl : ks.length = acc.toList.length := by
      have h1 : acc.toList.length = acc.size := Array.length_toList
      have h2 : acc.size = es'.size := hacc.1
      have h3 : ks.length = va.length := Paired.length kva
      omega
    refine paired_of_get hl fun i q u hq hu' => ?_
    have hia : i < acc.size := by
      have := (List.getElem?_eq_some_iff.mp hu').1
      simpa using this
    rw [Array.getElem?_toList] at hu'
    obtain ⟨hi', e1⟩ := hacc.2 i _ hu'
    have hv : ∃ p, va[i]? = some p ∧ q.1 = p.1 := by
      obtain ⟨p, hp, e⟩ := paired_get kva hq
      exact ⟨p, hp, e.1⟩
    obtain ⟨⟨kk, vv⟩, hp, ek⟩ := hv
    obtain ⟨e2, _⟩ := hks i hi' kk vv hp
    rw [e1]
    have ek' : q.1 = kk := ek
    rw [ek']
    exact keyIs_rel e2
  have T := triK rk hPu
  generalize hU : acc.toList = us' at T hPu ⊢
  have hul0 : us'.length = (es.map (·.1)).length := by rw [← Paired.length hPu, List.length_map, rpKV_len rk]
  have hul : us'.length ≤ sizeLine := by rw [hul0, line_eq]; exact hlen0
  refine wpAny_bind (wpAny_newList ?_ hul)
  have hoL : (h'.push (seqObj "list" us'.toArray 0)).get? h'.objs.size = some (seqObj "list" us'.toArray 0) := Heap.get?_push_size _ rfl
  have keep : ∀ b o, s.heap.get? b = some o → b ≠ h'.objs.size ∧ (h'.push (seqObj "list" us'.toArray 0)).get? b = some o := fun b o q => ⟨Nat.ne_of_lt (Heap.lt_size (hk b o q)), Heap.get?_push_of_some _ (hk b o q)⟩
  show wpAny _ _ _ _ _ { s with heap := h'.push (seqObj "list" us'.toArray 0), toks := tk }
  refine wpAny_bind (wpAny_holding (wpAny_call_entry slot_list_sort ⟨_, hoL, rfl⟩ entry_list_sort (SrtO.list_sort_ord (swoK s.heap) hoL hul (fun h2 => ?_) fun out h1 h2 => ⟨_, rfl, ?_⟩) (args_list_sort _)))
  · refine sortableS (ds := es.map (·.1)) (fun v hm => ?_) hok h2
    obtain ⟨x, d, h3, h4, h5⟩ := T.mem v hm
    obtain ⟨as, h6⟩ := rd x v d h3 h4 h5
    exact ⟨d, as, h3, h6⟩
  · obtain ⟨xs', ds', T', pm⟩ := T.perm h2.perm.symm
    have ek : out.map (kOf s.heap) = ds' := T'.map fun x u d hd hr hp => by
      obtain ⟨as, h6⟩ := rd x u d (pm.mem_iff.mp hd) hr hp
      exact kOf_eq h6
    have es2 : ds' = (es.map (·.1)).mergeSort leD3 := sort_one (fun d hd => (hdd d hd).1.1) pm (by
      rw [← ek]
      exact List.pairwise_map.mpr h1)
    obtain ⟨ep', he'⟩ := sortedHeap_at (out := out.toArray) hoL
    have hlen : xs'.length ≤ sizeLine := by
      rw [line_eq, da_len T'.all, pm.length_eq]
      exact hlen0
    have hp : H h'.objs.size = none := I.hok.fresh hsl
    rw [← es2] at k
    refine wpAny_pure ⟨_, rfl, .ref h'.objs.size, upd H h'.objs.size (.lst xs'), I.laid (a := h'.objs.size) (t' := tk) (fun b o q => ?_) hsl ⟨hlen, out, ep', T'.vals, he'⟩, rfl, k _ _ _ (Grow.own sf hp) (own_new sf hp T'.all) hp⟩
    rw [sortedHeap_old (keep b o q).1 (Heap.lt_size (keep b o q).2)]
    exact (keep b o q).2
def gSortU (g : Md D) : Md D := fun ρ => (g ρ).bind fun q => match q.1 with
  | .dict es => if es.isEmpty = false ∧ (es.all fun p => isKey p.1) = true ∧ sortOkT (es.map (·.1)) = true then some (.list ((es.map (·.1)).mergeSort leD3), q.2) else none
  | _ => none
theorem df_sortU {e : Expr} {g : Md D} (hc : X.calm = true) (hu : X.A.units + 65 < cLine) (hg : Gl X "sorted") (hm : X.mg "sorted" = none) (hb : bootBuiltins "sorted" = some (.builtin "sorted")) (h : DE X e g)
    (he : starEach (e :: []) X.env = (false, eval e X.env) :: starEach [] X.env := by rfl) : DF X (.Call (.Name "sorted" p) (e :: []) [] pos) (gSortU g) :=
  pe_imp (pe_callB (call_sortK hc hu) hg hm hb (pa_cons h pa_nil he) (by decide) (by decide) he (by rfl)) fun σ H Q q => by
    obtain ⟨F, ρ, d, ρ', s, eg, k⟩ := q
    obtain ⟨⟨d1, ρ1⟩, e1, eg1⟩ := bind_some eg
    refine ⟨F, ρ, d1, ρ1, s, e1, fun v F1 H1 p1 s1 r1 => ?_⟩
    simp only at eg1
    split at eg1
    · rename_i es
      split at eg1
      · rename_i ok
        cases eg1
        obtain ⟨a, ob, ks, rfl, ha, rk⟩ := rp_dk r1 (fun z => by rw [z] at ok; cases ok.1) ok.2.1
        exact ⟨a, F1, ob, ks, es, rfl, s1.sub, ha, rk, ok.2.2, fun b F' H' gr o hn => k b F' H' (p1.trans (gr.stp σ _)) (s1.grow gr) o (not_owns s1 hn) (p1.none hn)⟩
      · cases eg1
    · cases eg1
end
end Dn
set_option maxHeartbeats 2000000
namespace Dn
open PySem PySem.Spec PyProof.Rows L2
/-- a statement's reading that leaves slot i alone -/
def tDSk (K : Kx) (i : Nat) (g : Sd) : TS := fun E σ H => ∃ (F : Hp) (ρ : Env) (f : Fl) (ρ' : Env), St K F H σ ρ ∧ g ρ = some (f, ρ') ∧
  ∀ σ' F' H', Stp F σ ρ H F' σ' ρ' H' → St K F' H' σ' ρ' → σ'[i]? = σ[i]? → FlOk K E H F' σ' H' f
abbrev DK (X : Cx) (i : Nat) (st : Stmt) (g : Sd) : Prop := PS X st (tDSk (cxK X) i g)
abbrev DKs (X : Cx) (i : Nat) (st : List Stmt) (g : Sd) : Prop := PSs X st (tDSk (cxK X) i g)
section
variable {X : Cx} {i : Nat} {st : Stmt} {sts : List Stmt} {e c iter tg : Expr} {x : Str} {pos : Pos}
theorem dks_nil : DKs X i [] sNext := pss_imp pss_nil fun E σ H q => by
  obtain ⟨F, ρ, f, ρ', s, eg, k⟩ := q
  cases eg
  exact k σ F H Stp.refl s rfl
theorem dks_one {g : Sd} (h1 : DK X i st g) : DKs X i [st] g := pss_one h1
theorem dk_if {g : Md Bool} {s1 s2 : Sd} {as bs : List Stmt} (hc : DT X c g) (ha : DKs X i as s1) (hb : DKs X i bs s2) : DK X i (.If c as bs pos) (sIf g s1 s2) := ps_imp (ps_if hc ha hb) fun E σ H q => by
  obtain ⟨F, ρ, f, ρ', s, eg, k⟩ := q
  obtain ⟨⟨b, ρ1⟩, e1, eg1⟩ := bind_some eg
  refine ⟨F, ρ, b, ρ1, s, e1, fun F1 H1 p1 s1 => ?_⟩
  cases b with
  | true => exact ⟨F1, ρ1, f, ρ', s1, eg1, fun σ2 F2 H2 p2 s2 z2 => fl_base (k σ2 F2 H2 (p1.trans p2) s2 z2) fun _ => p1.none⟩
  | false => exact ⟨F1, ρ1, f, ρ', s1, eg1, fun σ2 F2 H2 p2 s2 z2 => fl_base (k σ2 F2 H2 (p1.trans p2) s2 z2) fun _ => p1.none⟩
theorem dk_own {j : Nat} {pos' : Pos} {g : Md D} (hji : j ≠ i) (hN : X.N.Nodup) (hi : X.N[j]? = some x) (hx : Loc X.env.scope x) (he : DF X e g) (hs : swapsWith e (some (.Name x pos')) pos.line X.env = pure false := by rfl) (hf : X.fn x = true ∨ X.env.scope.names.lookup x = some .local := by first | exact .inl rfl | exact .inr rfl | assumption) : DK X i (.Assign [.Name x pos'] e pos) (sOwn j g) :=
  ps_imp (ps_set hN hi hx he hs hf) fun E σ H q => by
    obtain ⟨F, ρ, f, ρ', s, eg, k⟩ := q
    obtain ⟨⟨d, ρ1⟩, e1, eg1⟩ := bind_some eg
    obtain ⟨r, e2, eg2⟩ := bind_some eg1
    cases eg2
    refine ⟨F, ρ, d, ρ1, s, e1, fun a F1 H1 p1 s1 o no hn => k _ F1 H1 (stp_set p1 e2 fun _ _ b _ z => ?_) (st_set s1 e2 ⟨a, rfl, o.1⟩ fun f _ b z1 z => ?_) (get_set_ne (Ne.symm hji))⟩
    · cases z
      exact hn
    · cases z
      cases z1
      exact ⟨rfl, no⟩
theorem dk_app (j : Nat) {ce : Expr} {g : Md D} (he : PE X ce (tBM (cxK X) "list" rAppend (tVar j) (tCons (tD (cxK X) g) tNil))) (hs : swapsWith ce none pos.line X.env = pure false := by rfl) : DK X i (.Expr ce pos) (sApp j g) :=
  ps_imp (ps_expr he hs) fun E σ H q => by
    obtain ⟨F, ρ, f, ρ', s, eg, k⟩ := q
    unfold sApp at eg
    split at eg
    · rename_i b0 d0 h0
      obtain ⟨a, ea, o0, _⟩ := st_owned s h0
      obtain ⟨_, xs0, hx0, _⟩ := own_lst o0
      obtain ⟨⟨d, ρ1⟩, e1, eg1⟩ := bind_some eg
      simp only at eg1
      split at eg1
      · rename_i b1 ds h1
        split at eg1
        · rename_i hl
          cases eg1
          refine ⟨.ref a, ea, .inl ⟨rfl, xs0, SqL.of hx0⟩, F, ρ, d, ρ1, s, e1, fun v F1 H1 p1 s1 r1 => ?_⟩
          obtain ⟨a1, ea1, o1, _⟩ := st_owned s1 h1
          rw [ea] at ea1
          cases ea1
          obtain ⟨f1, xs, hx, rx⟩ := own_lst o1
          refine ⟨a, xs, v, rfl, rfl, hx, by rw [line_eq, da_len rx]; exact hl, ?_⟩
          obtain ⟨o2, sh, kp⟩ := own_write s1.sub f1 hx (da_app rx (.cons r1 .nil))
          obtain ⟨s2, p2⟩ := st_own_set s1 h1 ea (Same.refl _) sh kp o2
          exact k σ F1 _ (p1.trans p2) s2 rfl
        · cases eg1
      · cases eg1
    · cases eg
theorem dk_for {gi : Md (List D)} {gt : D → Env → Option Env} {gb : Sd} {body : List Stmt} (hp : PassesOwn (model X.prog X.w) X.A X.env X.xe) (hc : X.calm = true) (hi : DI X tg iter gi) {is : List Nat} (hg : DG X tg is gt) (his : i ∉ is) (hb : DKs X i body gb) (hs : ∀ x, foldedSetIterable iter X.env x = pure x := by intro _; rfl) : DK X i (.For tg iter body [] pos) (sFor gi gt gb) :=
  ps_imp (ps_for hp hc hi hg hb hs) fun E σ H q => by
    obtain ⟨F, ρ, f, ρ', s, eg, k⟩ := q
    obtain ⟨⟨ds, ρ1⟩, e1, eg1⟩ := bind_some eg
    refine ⟨F, ρ, ds, ρ1, s, e1, fun J F1 H1 p1 s1 ok => ?_⟩
    refine ⟨fun j m σi Hi => ∃ Fi ρi, m = ds.length - j ∧ j ≤ ds.length ∧ Stp F σ ρ H Fi σi ρi Hi ∧ St (cxK X) Fi Hi σi ρi ∧ Same F1 Fi ∧ σi[i]? = σ[i]? ∧ forD gt gb (ds.drop j) ρi = some (f, ρ'), ⟨ds.length, F1, ρ1, by simp, Nat.zero_le _, p1, s1, Same.refl _, rfl, by simpa using eg1⟩, ?_⟩
    rintro j m σi Hi ⟨Fi, ρi, rfl, hj, pi, si, sf, zi, ei⟩
    by_cases hlt : j < ds.length
    · have hd : ds[j]? = some ds[j] := List.getElem?_eq_getElem hlt
      obtain ⟨ok1, _⟩ := ok Fi Hi sf si.sub j
      obtain ⟨go, yl⟩ := ok1 _ hd
      rw [drop_cons hd] at ei
      obtain ⟨ρ2, e2, ei1⟩ := bind_some ei
      obtain ⟨⟨f3, ρ3⟩, e3, ei2⟩ := bind_some ei1
      refine .inr ⟨go, fun σ' H' => ∃ F' ρ'', Stp F σ ρ H F' σ' ρ'' H' ∧ St (cxK X) F' H' σ' ρ'' ∧ Same F1 F' ∧ σ'[i]? = σ[i]? ∧ forD gt gb (ds.drop (j + 1)) ρ'' = some (f, ρ'), fun σ' H' ⟨F', ρ'', h1, h2, h3, h4, h5⟩ => ⟨ds.length - (j + 1), by omega, F', ρ'', rfl, hlt, h1, h2, h3, h4, h5⟩, fun v H' hy => ?_⟩
      obtain ⟨F', gr, rv⟩ := yl v H' hy
      have p' := pi.trans (gr.stp σi ρi)
      refine ⟨F', ρi, _, ρ2, si.grow gr, rv, e2, fun σ2 F2 H2 p2 s2 hk2 => ⟨F2, ρ2, f3, ρ3, s2, e3, fun σ3 F3 H3 p3 s3 z3 => ?_⟩⟩
      have pp := p'.trans (p2.trans p3)
      have sff := sf.trans (gr.ff.trans (p2.ff.trans p3.ff))
      have zz : σ3[i]? = σ[i]? := z3.trans ((hk2.2 i his).trans zi)
      cases f3 with
      | nx => exact ⟨F3, ρ3, pp, s3, sff, zz, ei2⟩
      | cnt => exact ⟨F3, ρ3, pp, s3, sff, zz, ei2⟩
      | brk =>
        cases ei2
        exact k σ3 F3 H3 pp s3 zz
      | ret r =>
        cases ei2
        exact k σ3 F3 H3 pp s3 zz
      | rof r =>
        cases ei2
        exact fl_base (k σ3 F3 H3 pp s3 zz) fun _ n => p'.none (p2.none n)
    · have hl : j = ds.length := by omega
      obtain ⟨_, st⟩ := ok Fi Hi sf si.sub j
      rw [List.drop_of_length_le (by omega)] at ei
      cases ei
      exact .inl ⟨st (by omega), k σi Fi Hi pi si zi⟩
end
/-- the dict and its new list, beside the state -/
structure Fh (K : Kx) (F H : Hp) (σ : L2.St) (ρ : Env) (H0 : Hp) (i : Nat) (a l : Addr) (ks : List (Key × V)) (acc : List D) : Prop where
  slot : σ[i]? = some (some (.ref a))
  fa : F a = none
  ha : H a = some (.dK ks)
  fl : F l = none
  vs : ∃ vs, H l = some (.lst vs) ∧ RpAll K F vs acc
  al : a ≠ l
  noa : ¬ Owns σ ρ a
  nol : ¬ Owns σ ρ l
  h0 : H0 l = none
theorem Fh.step {K : Kx} {F H F' H' : Hp} {σ σ' : L2.St} {ρ ρ' : Env} {H0 : Hp} {i : Nat} {a l : Addr} {ks acc} (g : Fh K F H σ ρ H0 i a l ks acc) (p : Stp F σ ρ H F' σ' ρ' H') (e : σ'[i]? = σ[i]?) : Fh K F' H' σ' ρ' H0 i a l ks acc := by
  have fr : ∀ b, (∃ o, H b = some o) → ¬ Owns σ ρ b → ¬ Owns σ' ρ' b := fun b ho hn z => by
    rcases p.fresh b z with q | q
    · exact hn q
    · obtain ⟨o, ho⟩ := ho
      rw [q] at ho
      cases ho
  obtain ⟨k1, k2⟩ := p.keep a _ g.ha g.noa
  obtain ⟨vs, hv, rv⟩ := g.vs
  obtain ⟨k3, k4⟩ := p.keep l _ hv g.nol
  exact ⟨e.trans g.slot, k2.trans g.fa, k1, k4.trans g.fl, ⟨vs, k3, dpAll_mono p.ff _ _ rv⟩, g.al, fr a ⟨_, g.ha⟩ g.noa, fr l ⟨_, hv⟩ g.nol, g.h0⟩
/-- a turn's reading -/
def tFt (K : Kx) (i : Nat) (kk : Key) (gT : List D → Env → Option (List D × Env)) : TS := fun E σ H => ∃ (F : Hp) (ρ : Env) (acc acc' : List D) (ρ' : Env) (Fs : Hp) (σs : L2.St) (ρs : Env) (Hs : Hp) (a l : Addr) (ks : List (Key × V)),
  St K F H σ ρ ∧ Fh K F H σ ρ Hs i a l ks acc ∧ valV ks kk = some (.ref l) ∧ Stp Fs σs ρs Hs F σ ρ H ∧ gT acc ρ = some (acc', ρ') ∧
  ∀ σ' F' H', Same F F' → Stp Fs σs ρs Hs F' σ' ρ' H' → St K F' H' σ' ρ' → Fh K F' H' σ' ρ' Hs i a l ks acc' → E.nx σ' H'
section
variable {X : Cx} {i : Nat} {st : Stmt} {sts : List Stmt} {pos : Pos}
theorem ft_cons {kk : Key} {g : Sd} {gT : List D → Env → Option (List D × Env)} (h1 : DK X i st g) (h2 : PSs X sts (tFt (cxK X) i kk gT)) : PSs X (st :: sts) (tFt (cxK X) i kk fun acc ρ => (g ρ).bind fun p => match p.1 with
    | .nx => gT acc p.2
    | _ => none) := pss_imp (pss_cons h1 h2) fun E σ H q => by
  obtain ⟨F, ρ, acc, acc', ρ', Fs, σs, ρs, Hs, a, l, ks, s, fh, hk, pp, eg, k⟩ := q
  obtain ⟨⟨f1, ρ1⟩, e1, eg1⟩ := bind_some eg
  refine ⟨F, ρ, f1, ρ1, s, e1, fun σ1 F1 H1 p1 s1 z1 => ?_⟩
  cases f1 with
  | nx => exact ⟨F1, ρ1, acc, acc', ρ', Fs, σs, ρs, Hs, a, l, ks, s1, fh.step p1 z1, hk, pp.trans p1, eg1, fun σ2 F2 H2 f2 p2 s2 h2 => k σ2 F2 H2 (p1.ff.trans f2) p2 s2 h2⟩
  | ret d => cases eg1
  | rof d => cases eg1
  | brk => cases eg1
  | cnt => cases eg1
theorem ft_last {kk : Key} {ce : Expr} {gk gx : Md D} (he : PE X ce (tBM (cxK X) "list" rAppend (tDGet (tVar i) (tD (cxK X) gk)) (tCons (tD (cxK X) gx) tNil))) (hs : swapsWith ce none pos.line X.env = pure false := by rfl) :
    PSs X [.Expr ce pos] (tFt (cxK X) i kk fun acc ρ => (gk ρ).bind fun q => if keyEq q.1 (keyD kk) = true ∧ acc.length < 16777216 then (gx q.2).bind fun r => some (acc ++ [r.1], r.2) else none) :=
  pss_imp (pss_one (ps_expr he hs)) fun E σ H q => by
    obtain ⟨F, ρ, acc, acc', ρ', Fs, σs, ρs, Hs, a, l, ks, s, fh, hk, pp, eg, k⟩ := q
    obtain ⟨⟨dk, ρ1⟩, e1, eg1⟩ := bind_some eg
    simp only at eg1
    split at eg1
    · rename_i hc
      obtain ⟨⟨dx, ρ2⟩, e2, eg2⟩ := bind_some eg1
      cases eg2
      refine ⟨.ref a, fh.slot, F, ρ, dk, ρ1, s, e1, fun y F1 H1 p1 s1 r1 => ?_⟩
      have fh1 := fh.step p1 rfl
      obtain ⟨k', rfl⟩ : ∃ k' : Key, dk = keyD k' := isKey_key (by cases dk <;> first | rfl | (cases kk <;> exact absurd hc.1 (by simp [keyEq, keyD])))
      rw [keyEq_iff] at hc
      obtain rfl : k' = kk := by simpa using hc.1
      obtain rfl := rp_keyU r1
      obtain ⟨vs, hv, rv⟩ := fh1.vs
      refine ⟨a, .ref l, rfl, by rw [← hk]; exact DGet.k fh1.ha, .inl ⟨rfl, vs, SqL.of hv⟩, F1, ρ1, dx, ρ2, s1, e2, fun w F2 H2 p2 s2 r2 => ?_⟩
      have fh2 := fh1.step p2 rfl
      obtain ⟨vs2, hv2, rv2⟩ := fh2.vs
      refine ⟨l, vs2, w, rfl, rfl, hv2, by rw [line_eq, da_len rv2]; exact hc.2, ?_⟩
      have p3 := (pp.trans p1).trans p2
      exact k σ F2 _ (p1.ff.trans p2.ff) (stp_poke p3 (.inl fh2.h0)) (st_side s2 fh2.fl fh2.nol) ⟨fh2.slot, fh2.fa, by rw [upd_ne fh2.al]; exact fh2.ha, fh2.fl, ⟨_, upd_same, da_app rv2 (.cons r2 .nil)⟩, fh2.al, fh2.noa, fh2.nol, fh2.h0⟩
    · cases eg1
end
def fillD (gt : D → Env → Option Env) (gT : D → List D → Env → Option (List D × Env)) (key : D) : List D → List D → Env → Option (List D × Env)
  | [], acc, ρ => some (acc, ρ)
  | d :: ds, acc, ρ => (gt d ρ).bind fun ρ1 => (gT key acc ρ1).bind fun q => fillD gt gT key ds q.1 q.2
def txtC : Option (Option Cell) → Option (Bool × List (D × D))
  | some (some (.own b (.tuple [.dict es]))) => some (b, es)
  | _ => none
theorem txtC_some {o : Option (Option Cell)} {p : Bool × List (D × D)} (h : txtC o = some p) : o = some (some (.own p.1 (.tuple [.dict p.2]))) := by
  unfold txtC at h
  split at h
  · cases h
    rfl
  · cases h
def sFill (i : Nat) (gk : Md D) (gi : Md (List D)) (gt : D → Env → Option Env) (gT : D → List D → Env → Option (List D × Env)) : Sd := fun ρ => (txtC ρ[i]?).bind fun _ => (gk ρ).bind fun q => (txtC q.2[i]?).bind fun c =>
  if isKey q.1 = true ∧ c.2.length < 16777216 ∧ c.1 = false then
    (gi (q.2.set i none)).bind fun p => (fillD gt gT q.1 p.1 [] p.2).bind fun r => (setC i (.own false (.tuple [.dict (putU c.2 q.1 (.list r.1))])) r.2).bind fun ρ' => some (.nx, ρ')
  else none
theorem valV_put {ks : List (Key × V)} {k : Key} {v : V} : valV (putK ks k v) k = some v := by
  unfold putK
  split
  · rename_i h
    unfold valV
    induction ks with
    | nil => cases h
    | cons p ks ih =>
      rw [List.map_cons, List.find?_cons]
      by_cases z : p.1 = k
      · simp [z]
      · rw [if_neg z]
        simp only [z, decide_false]
        rw [List.any_cons] at h
        simp only [z, decide_false, Bool.false_or] at h
        exact ih h
  · rename_i h
    unfold valV
    rw [List.find?_append]
    have : ks.find? (fun kv => decide (kv.1 = k)) = none := by
      rw [List.find?_eq_none]
      intro p hp hq
      exact h (List.any_eq_true.mpr ⟨p, hp, hq⟩)
    rw [this]
    simp
theorem stp_home {F0 F H0 H : Hp} {σ0 σ : L2.St} {ρ0 ρ ρ' : Env} {i : Nat} {a : Addr} {d : D} (p : Stp F0 σ0 ρ0 H0 F σ ρ H) (h : setC i (.own false d) ρ = some ρ') (e : σ[i]? = some (some (.ref a))) (oa : Owns σ0 ρ0 a) : Stp F0 σ0 ρ0 H0 F σ ρ' H := by
  obtain ⟨rfl, nf, o, ho⟩ := setC_some h
  refine ⟨p.ff, p.keep, fun b hb => ?_, fun j d hj => ?_, p.dom⟩
  · obtain ⟨j, f, dj, h1, h2⟩ := hb
    by_cases z : j = i
    · subst z
      rw [e] at h2
      cases h2
      exact .inl oa
    · rw [get_set_ne z] at h1
      exact p.fresh b ⟨j, f, dj, h1, h2⟩
  · obtain ⟨e1, d', e2⟩ := p.fix j d hj
    have z : j ≠ i := fun z => by
      subst z
      exact nf _ e2
    exact ⟨e1, d', by rw [get_set_ne z]; exact e2⟩
theorem dss_fill (i : Nat) {X : Cx} {y : Str} {py tpos pos pos2 : Pos} {e a tg iter : Expr} {body : List Stmt} {gk : Md D} {gi : Md (List D)} {gt : D → Env → Option Env} {gT : D → List D → Env → Option (List D × Env)} {is : List Nat} (hu : X.A.units + 65 < cLine) (hc : X.calm = true) (hp : PassesOwn (model X.prog X.w) X.A X.env X.xe) (he : DF X e (gApp mkLst gNil)) (hk : DE X a gk)
    (hi : DI X tg iter gi) (hg : DG X tg is gt) (his : i ∉ is) (hb : ∀ kk : Key, PSs X body (tFt (cxK X) i kk (gT (keyD kk))))
    (hN : X.N[i]? = some y := by rfl) (hv : Vis X.env.scope y := by first | exact Or.inl rfl | exact Or.inr (Or.inl rfl) | exact Or.inr (Or.inr rfl)) (hdy : (y == ("__debug__" : Str)) = false := by decide) (hcd : (y == ("__classdict__" : Str)) = false := by decide)
    (hs : swapsWith e (some (.Subscript (.Name y py) a tpos)) pos.line X.env = pure false := by rfl) (hs2 : ∀ x, foldedSetIterable iter X.env x = pure x := by intro _; rfl) :
    DSs X [.Assign [.Subscript (.Name y py) a tpos] e pos, .For tg iter body [] pos2] (sFill i gk gi gt gT) := by
  refine ⟨fun pins s0 σ H E I q => ?_⟩
  obtain ⟨F, ρ, f, ρ', s, eg, k⟩ := q
  obtain ⟨c0, h0z, eg⟩ := bind_some eg
  have h0 := txtC_some h0z
  clear h0z
  obtain ⟨⟨dk, ρ1⟩, e1, eg⟩ := bind_some eg
  obtain ⟨⟨b, es⟩, h1z, eg⟩ := bind_some eg
  have h1 := txtC_some h1z
  clear h1z
  simp only at eg h1
  split at eg
  · rename_i hcd2
    obtain ⟨hky, hlen, hbf⟩ := hcd2
    subst hbf
    obtain ⟨kk, rfl⟩ := isKey_key hky
    obtain ⟨⟨ds, ρ2⟩, e2, eg⟩ := bind_some eg
    obtain ⟨⟨acc, ρ3⟩, e3, eg⟩ := bind_some eg
    obtain ⟨ρ4, e4, eg⟩ := bind_some eg
    cases eg
    refine (pss_cons (ps_dput (by omega) (pe_var hN hv hdy hcd) hk he hs) (pss_one (ps_for hp hc hi hg (hb kk) hs2))).run pins s0 σ H E I ?_
    refine ⟨F, ρ, .list [], ρ, s, rfl, fun ln Fa Ha pa sa oa noa hna => ?_⟩
    obtain ⟨fln, vl, hvl, rvl⟩ := own_lst oa.1
    cases rvl
    obtain ⟨a0, ea, o0, ow0⟩ := st_owned sa h0
    refine ⟨.ref a0, ea, Fa, ρ, _, ρ1, sa, e1, fun u F2 H2 p2 s2 r2 => ?_⟩
    obtain ⟨a1, ea1, o1, ow1⟩ := st_owned s2 h1
    rw [ea] at ea1
    cases ea1
    obtain ⟨f1, ks, hx, rx⟩ := own_txt o1
    obtain rfl := rp_keyU r2
    refine ⟨a0, _, rfl, .inl ⟨ks, kk, hx, rfl, by rw [rpKV_len rx, line_eq]; exact hlen, rfl⟩, ?_⟩
    -- the slot forgotten
    have hil : i < ρ1.length := (List.getElem?_eq_some_iff.mp h1).1
    have sub : ∀ (j : Nat) (c : Cell), (ρ1.set i none)[j]? = some (some c) → j ≠ i ∧ ρ1[j]? = some (some c) := fun j c hj => by
      by_cases z : j = i
      · subst z
        rw [List.getElem?_set_self hil] at hj
        cases hj
      · rw [get_set_ne z] at hj
        exact ⟨z, hj⟩
    have s2f : St (cxK X) F2 H2 σ (ρ1.set i none) := ⟨s2.sub, by rw [List.length_set]; exact s2.len, fun j c hj => s2.cell j c (sub j c hj).2, fun j l f g d e b h3 h4 h5 h6 => s2.dist j l f g d e b (sub j _ h3).2 (sub l _ h4).2 h5 h6⟩
    have noa0 : ¬ Owns σ (ρ1.set i none) a0 := fun ⟨j, f, d, h3, h4⟩ => (sub j _ h3).1 (s2.dist j i f false d _ a0 (sub j _ h3).2 h1 h4 ea)
    have p0 : Stp F2 σ ρ1 H2 F2 σ (ρ1.set i none) H2 := ⟨Same.refl _, fun _ _ h _ => ⟨h, rfl⟩, fun b ⟨j, f, d, h3, h4⟩ => .inl ⟨j, f, d, (sub j _ h3).2, h4⟩, fun j d h => by
      have z : j ≠ i := fun z => by
        subst z
        rw [h1] at h
        cases h
      exact ⟨rfl, d, by rw [get_set_ne z]; exact h⟩, fun _ o h => ⟨o, h⟩⟩
    have sown : Owns σ ρ a0 := by
      obtain ⟨a', ea', _, ow'⟩ := st_owned s h0
      rw [ea] at ea'
      cases ea'
      exact ow'
    have hnl : a0 ≠ ln := fun z => by
      obtain ⟨_, u0, hu0⟩ := s.free sown
      rw [z, hna] at hu0
      cases hu0
    obtain ⟨kl1, kl2⟩ := p2.keep ln _ hvl noa
    have nol1 : ¬ Owns σ (ρ1.set i none) ln := fun ⟨j, f, d, h3, h4⟩ => by
      rcases p2.fresh ln ⟨j, f, d, (sub j _ h3).2, h4⟩ with q | q
      · exact noa q
      · rw [hvl] at q
        cases q
    have s3 : St (cxK X) F2 (upd H2 a0 (.dK (putK ks kk (.ref ln)))) σ (ρ1.set i none) := st_side s2f f1 noa0
    have p3 : Stp F σ ρ H F2 σ (ρ1.set i none) (upd H2 a0 (.dK (putK ks kk (.ref ln)))) := stp_poke ((pa.trans p2).trans p0) (.inr sown)
    have fh : Fh (cxK X) F2 (upd H2 a0 (.dK (putK ks kk (.ref ln)))) σ (ρ1.set i none) H i a0 ln (putK ks kk (.ref ln)) [] :=
      ⟨ea, f1, upd_same, kl2.trans fln, ⟨[], by rw [upd_ne (Ne.symm hnl)]; exact kl1, .nil⟩, hnl, noa0, nol1, hna⟩
    refine ⟨F2, _, ds, ρ2, s3, e2, fun J F1 H1 p1 s1 ok => ?_⟩
    have fh1 := fh.step p1 rfl
    refine ⟨fun j m σi Hi => ∃ Fi ρi acci, m = ds.length - j ∧ j ≤ ds.length ∧ Stp F σ ρ H Fi σi ρi Hi ∧ St (cxK X) Fi Hi σi ρi ∧ Same F1 Fi ∧ Fh (cxK X) Fi Hi σi ρi H i a0 ln (putK ks kk (.ref ln)) acci ∧ fillD gt gT (keyD kk) (ds.drop j) acci ρi = some (acc, ρ3), ⟨ds.length, F1, ρ2, [], by simp, Nat.zero_le _, p3.trans p1, s1, Same.refl _, fh1, by simpa using e3⟩, ?_⟩
    rintro j m σi Hi ⟨Fi, ρi, acci, rfl, hj, pi, si, sf, gi', ei⟩
    by_cases hlt : j < ds.length
    · have hd : ds[j]? = some ds[j] := List.getElem?_eq_getElem hlt
      obtain ⟨ok1, _⟩ := ok Fi Hi sf si.sub j
      obtain ⟨go, yl⟩ := ok1 _ hd
      rw [drop_cons hd] at ei
      obtain ⟨ρ5, c1, ei⟩ := bind_some ei
      obtain ⟨⟨acc5, ρ6⟩, c2, ei⟩ := bind_some ei
      refine .inr ⟨go, fun σ' H' => ∃ F' ρ'' acc'', Stp F σ ρ H F' σ' ρ'' H' ∧ St (cxK X) F' H' σ' ρ'' ∧ Same F1 F' ∧ Fh (cxK X) F' H' σ' ρ'' H i a0 ln (putK ks kk (.ref ln)) acc'' ∧ fillD gt gT (keyD kk) (ds.drop (j + 1)) acc'' ρ'' = some (acc, ρ3), fun σ' H' ⟨F', ρ'', acc'', h3, h4, h5, h6, h7⟩ => ⟨ds.length - (j + 1), by omega, F', ρ'', acc'', rfl, hlt, h3, h4, h5, h6, h7⟩, fun v H' hy => ?_⟩
      obtain ⟨F', gr, rv⟩ := yl v H' hy
      have pg := gr.stp σi ρi
      have gg := gi'.step pg rfl
      refine ⟨F', ρi, _, ρ5, si.grow gr, rv, c1, fun σ2 F7 H7 p7 s7 hk7 => ?_⟩
      have gg2 := gg.step p7 (hk7.2 i his)
      exact ⟨F7, ρ5, acci, acc5, ρ6, F, σ, ρ, H, a0, ln, putK ks kk (.ref ln), s7, gg2, valV_put, (pi.trans pg).trans p7, c2, fun σ' F' H' f' p' s' fh' => ⟨F', ρ6, acc5, p', s', (sf.trans (gr.ff.trans p7.ff)).trans f', fh', ei⟩⟩
    · have hj2 : j = ds.length := by omega
      subst hj2
      rw [List.drop_length] at ei
      cases ei
      obtain ⟨_, ok2⟩ := ok Fi Hi sf si.sub ds.length
      refine .inl ⟨ok2 (Nat.le_refl _), ?_⟩
      obtain ⟨vs, hv, rv⟩ := gi'.vs
      have sz := st_frz si gi'.fl hv gi'.nol
      have fz : Same Fi (upd Fi ln (.lst vs)) := same_new gi'.fl
      have pz := stp_ice pi fz fun b hb => by
        by_cases zl : b = ln
        · subst zl
          exact .inl gi'.h0
        · exact absurd (upd_ne zl) hb
      have rl : Rp (cxK X) (upd Fi ln (.lst vs)) (.ref ln) (.list acc) := .lst (SqL.of upd_same) (dpAll_mono fz _ _ rv)
      have rp : RpKV (cxK X) (upd Fi ln (.lst vs)) (putK ks kk (.ref ln)) (putU es (keyD kk) (.list acc)) := rpKV_put rl (dpKV_mono ((p1.ff.trans sf).trans fz) _ _ rx)
      have ho : OwnAt (cxK X) (upd Fi ln (.lst vs)) Hi a0 (.tuple [.dict (putU es (keyD kk) (.list acc))]) := ⟨by rw [upd_ne hnl]; exact gi'.fa, .inr (.inr ⟨_, _, rfl, gi'.ha, rp⟩)⟩
      have sσ : σi.set i (some (.ref a0)) = σi := by
        have hl : i < σi.length := (List.getElem?_eq_some_iff.mp gi'.slot).1
        apply List.ext_getElem?
        intro l
        by_cases z : l = i
        · subst z
          rw [List.getElem?_set_self hl, gi'.slot]
        · rw [List.getElem?_set_ne (Ne.symm z)]
      have st2 := st_set (v := .ref a0) sz e4 ⟨a0, rfl, ho⟩ fun f d b z1 z => by
        cases z
        cases z1
        exact ⟨rfl, gi'.noa⟩
      rw [sσ] at st2
      exact k σi _ Hi (stp_home pz e4 gi'.slot sown) st2
  · cases eg
end Dn
set_option maxHeartbeats 2000000
namespace Dn
open PySem PySem.Spec PyProof.Rows L2
section
variable {X : Cx} {x : Str} {pos p : Pos}
def sNewTD (i : Nat) (gs : List (Md D × Md D)) : Sd := fun ρ => (gKV gs ρ).bind fun p => if keysOk p.1 = true then (setC i (.own false (.tuple [.dict p.1])) p.2).bind fun r => some (.nx, r) else none
theorem ds_newTD {i : Nat} {pos' : Pos} {ks : List (Option Expr)} {vs : List Expr} {gs : List (Md D × Md D)} (hN : X.N.Nodup) (hi : X.N[i]? = some x) (hx : Loc X.env.scope x) (h : DKV X p ks vs gs) (h0 : ks ≠ []) (h15 : ks.length ≤ 15) (hs : swapsWith (.Dict ks vs p) (some (.Name x pos')) pos.line X.env = pure false := by rfl) (hf : X.fn x = true ∨ X.env.scope.names.lookup x = some .local := by first | exact Or.inr rfl | exact Or.inl rfl) : DS X (.Assign [.Name x pos'] (.Dict ks vs p) pos) (sNewTD i gs) :=
  ps_imp (ps_set hN hi hx (pe_disp h.pps h.facts.1 h.facts.2.1 h0 h15) hs hf) fun E σ H q => by
    obtain ⟨F, ρ, f, ρ', s, eg, k⟩ := q
    obtain ⟨⟨es, ρ1⟩, e1, eg⟩ := bind_some eg
    simp only at eg
    split at eg
    · rename_i hk
      obtain ⟨r, e2, eg2⟩ := bind_some eg
      cases eg2
      unfold keysOk at hk
      simp only [Bool.and_eq_true, decide_eq_true_eq] at hk
      obtain ⟨⟨hk1, hk2⟩, hk3⟩ := hk
      intro p hp
      have hF : F p = none := none_sub s.sub hp
      have hno : ¬ Owns σ ρ p := not_owns s hp
      have gr : Grow F H F (upd H p (.dK [])) := Grow.own s.sub hp
      refine tkv_q gs (s.grow gr) e1 fun ps F2 H2 p2 s2 r2 => ?_
      obtain ⟨k1, k2⟩ := p2.keep p _ upd_same hno
      obtain ⟨kvs, i1, i2, i3⟩ := rpP_kv r2 hk1
      have hl : kvs.length = es.length := by simpa using congrArg List.length i3
      have hnd : (kvs.map (·.1)).Nodup := by
        rw [← i3] at hk2
        have e4 : kvs.map (fun kv => some kv.1) = (kvs.map (·.1)).map some := by simp
        rw [e4] at hk2
        exact List.Pairwise.imp (fun h => fun e => h (congrArg some e)) (List.pairwise_map.mp hk2)
      refine ⟨k1, kvs, i1, by omega, ?_⟩
      have em : mergeK [] kvs = kvs := mergeK_new (kvs := []) (by simpa using hnd)
      rw [em]
      have hF2 : F2 p = none := k2.trans hF
      have p3 : Stp F σ ρ H F2 σ ρ1 H2 := (gr.stp σ ρ).trans p2
      have hn2 : ¬ Owns σ ρ1 p := fun z => by
        rcases p2.fresh p z with y | y
        · exact hno y
        · rw [upd_same] at y; cases y
      have o : OwnAt (cxK X) F2 (upd H2 p (.dK kvs)) p (.tuple [.dict es]) := ⟨hF2, .inr (.inr ⟨kvs, es, rfl, upd_same, i2⟩)⟩
      have s4 : St (cxK X) F2 (upd H2 p (.dK kvs)) σ ρ1 := st_side s2 hF2 hn2
      refine k _ F2 _ (stp_set (stp_poke p3 (.inl hp)) e2 fun _ _ b _ z => ?_) (st_set s4 e2 ⟨p, rfl, o⟩ fun f _ b z1 z => ?_)
      · cases z
        exact hp
      · cases z
        cases z1
        exact ⟨rfl, hn2⟩
    · cases eg
end
end Dn
set_option maxHeartbeats 2000000
namespace Dn
open PySem PySem.Spec PyProof.Rows L2
section
variable {Y : Cx} {i : Nat} {a dd : Addr} {m : Str} {e e2 c : Expr} {es : List Expr} {pos p : Pos} {x : Str} {st : Stmt} {sts : List Stmt}
theorem ms_app (j : Nat) {ce : Expr} {g : Md D} (he : PE Y ce (tBM (cxK Y) "list" rAppend (tVar j) (tCons (tM (cxK Y) i a dd m g) tNil))) (hs : swapsWith ce none pos.line Y.env = pure false := by rfl) : MS Y i a dd m (.Expr ce pos) (sApp j g) :=
  ps_imp (ps_expr he hs) fun E σ H q => by
    obtain ⟨hi, F, ρ, f, ρ', s, hx, eg, k⟩ := q
    unfold sApp at eg
    split at eg
    · rename_i b0 d0 h0
      obtain ⟨a0, ea, o0, _⟩ := st_owned s h0
      obtain ⟨_, xs0, hx0, _⟩ := own_lst o0
      obtain ⟨⟨d, ρ1⟩, e1, eg1⟩ := bind_some eg
      simp only at eg1
      split at eg1
      · rename_i b1 ds h1
        split at eg1
        · rename_i hl
          cases eg1
          refine ⟨.ref a0, ea, .inl ⟨rfl, xs0, SqL.of hx0⟩, hi, F, ρ, d, ρ1, s, hx, e1, fun v F1 H1 p1 s1 r1 => ?_⟩
          obtain ⟨a1, ea1, o1, _⟩ := st_owned s1 h1
          rw [ea] at ea1
          cases ea1
          obtain ⟨f1, xs, hx1, rx⟩ := own_lst o1
          refine ⟨a0, xs, v, rfl, rfl, hx1, by rw [line_eq, da_len rx]; exact hl, ?_⟩
          obtain ⟨o2, sh, kp⟩ := own_write s1.sub f1 hx1 (da_app rx (.cons r1 .nil))
          obtain ⟨s2, p2⟩ := st_own_set s1 h1 ea (Same.refl _) sh kp o2
          exact k σ F1 _ (p1.trans p2) s2
        · cases eg1
      · cases eg1
    · cases eg
end
section
variable {X : Cx} {W : WX} {x n : Str} {c : Value} {i : Nat} {body suite : List Stmt} {b₀ : Stmt} {np pos pos' : Pos}
def clearN (i : Nat) (g : Sd) : Sd := fun ρ => if notOwn ρ i = true ∧ i < ρ.length then (g (ρ.set i none)).bind fun p => match p.1 with
  | .ret d => some (.ret d, p.2)
  | .nx => if notOwn p.2 i = true then some (.nx, p.2.set i none) else none
  | _ => none else none
/-- try: body / except x as n: suite, the suite returning or going on -/
def xTryN (i : Nat) (h : Str → Option Bool) (gb : Sx) (gs : Xc → Sd) : Sx := xTry h gb (fun x => clearN i (gs x))
theorem sx_tryN {h : Str → Option Bool} {gb : Sx} {gs : Xc → Sd} (hs : X.stack = X.env :: X.outer) (hf : X.env.frame = some X.env.locals) (hN : X.N.Nodup) (hi : X.N[i]? = some n) (hln : X.env.kindOf n = some .local) (hc : Names X x c) (tk : Takes X W)
    (hh : ∀ (cn : Str) (C : Addr) (b : Bool), h cn = some b → X.mg cn = some (.ref C) → PySem.W.exmOne X.K (.ref C) c = some b)
    (hb : ∀ (W : WX) (pn : List (Addr × Obj)) (xe : Value → Shared → Prop), Takes (X.tr pn xe) W → PassesOwn (model X.prog X.w) X.A X.env xe → SXs (X.tr pn xe) W body gb)
    (hsu : ∀ (xc : Xc) (C a dd : Addr) (oe : Obj) (pn : List (Addr × Obj)), h xc.c = some true → X.mg xc.c = some (.ref C) → Zc (.ref C) (some dd) oe → (∃ vs, oe.data = .fields vs) → MSs (X.suite a ((a, oe) :: pn)) i a dd xc.m (b₀ :: suite) (gs xc)) :
    SX X W (.Try body [.ExceptHandler (some (.Name x np)) (some n) (b₀ :: suite) pos'] [] [] pos) (xTryN i h gb gs) := by
  refine ps_imp (ps_try_as (tb := fun V => tXS (cxK X) X.mg V gb) (ts := fun a cls d E σ H => ∃ (xc : Xc) (C dd : Addr), h xc.c = some true ∧ X.mg xc.c = some (.ref C) ∧ cls = .ref C ∧ d = some dd ∧ tMS (cxK X) i a dd xc.m (gs xc) E σ H) (Wout := W) hs hf hN hi hln hc tk hb fun a oe cls d pn hz hv => ?_) fun E σ H q => ?_
  · refine ⟨fun pins s σ H D I q => ?_⟩
    obtain ⟨xc, C, dd, e, e2, rfl, rfl, q⟩ := q
    exact (hsu xc C a dd oe pn e e2 hz hv).run pins s σ H D I q
  · obtain ⟨F, ρ, r, ρ', s, eg, k⟩ := q
    obtain ⟨⟨f, ρ1⟩, e1, eg1⟩ := bind_some eg
    refine ⟨F, ρ, f, ρ1, s, e1, fun σ1 F1 H1 p1 s1 => ?_⟩
    cases f with
    | inl f =>
      cases eg1
      exact k σ1 F1 H1 p1 s1
    | inr xc =>
      obtain ⟨b, e2, eg2⟩ := bind_some eg1
      intro C dd hC hd
      refine ⟨b, hh _ _ _ e2 hC, fun hb a na => ?_, fun hb => ?_⟩
      · subst hb
        have eg3 : xOk (clearN i (gs xc)) ρ1 = some (r, ρ') := eg2
        obtain ⟨f, rfl, e4⟩ := ok_some eg3
        unfold clearN at e4
        split at e4
        · rename_i ho
          obtain ⟨⟨f5, ρ5⟩, e5, e6⟩ := bind_some e4
          have hl : i < σ1.length := by rw [← s1.len]; exact ho.2
          have s2 := st_clear (i := i) (v := some (.ref a)) s1 ho.1
          have p2 := stp_clear (i := i) (v := some (.ref a)) p1 ho.1
          refine ⟨xc, C, dd, e2, hC, rfl, rfl, List.getElem?_set_self hl, F1, ρ1.set i none, f5, ρ5, s2, hd, e5, fun σ3 F3 H3 p3 s3 => ?_⟩
          cases f5 with
          | ret d =>
            cases e6
            exact fun v rv => k σ3 F3 H3 (p2.trans p3) s3 v rv
          | nx =>
            simp only at e6
            split at e6
            · rename_i hn
              cases e6
              exact k _ F3 H3 (stp_clear (v := none) (p2.trans p3) hn) (st_clear (v := none) s3 hn)
            · cases e6
          | rof d => cases e6
          | brk => cases e6
          | cnt => cases e6
        · cases e4
      · subst hb
        have eg3 : some ((.inr xc : Fl ⊕ Xc), ρ1) = some (r, ρ') := eg2
        cases eg3
        exact k σ1 F1 H1 p1 s1 C dd hC hd
theorem sx_tryM {l : List (Str × Bool × (Str → Sd))} {gb : Sx} (hs : X.stack = X.env :: X.outer) (hf : X.env.frame = some X.env.locals) (hN : X.N.Nodup) (hi : X.N[i]? = some n) (hln : X.env.kindOf n = some .local) (hc : Names X x c) (tk : Takes X W)
    (hb : ∀ (W : WX) (pn : List (Addr × Obj)) (xe : Value → Shared → Prop), Takes (X.tr pn xe) W → PassesOwn (model X.prog X.w) X.A X.env xe → SXs (X.tr pn xe) W body gb) (hl : HA X i c (b₀ :: suite) l) :
    SX X W (.Try body [.ExceptHandler (some (.Name x np)) (some n) (b₀ :: suite) pos'] [] [] pos) (xTryN i (hL l) gb (gL l)) :=
  sx_tryN hs hf hN hi hln hc tk hl.hh hb hl.su
end
end Dn
set_option maxHeartbeats 2000000
namespace Dm
open DnSo
open PySem Dn
section
variable {ρ : Dn.Env} {R : Fl → Dn.Env → Prop}
theorem wm_fmt {g : Md D} {Q : D → Dn.Env → Prop} : Wm (gFmt g) ρ Q ↔ Wm g ρ fun d ρ1 => Wo (fmtD d) fun z => Q z ρ1 := by
  unfold Wm gFmt
  simp only [wo_bind, wo_some]
theorem fmt_s {x : Str} : fmtD (.str x) = if x.length ≤ 16777216 then some (.str x) else none := rfl
theorem fmt_i {i : Int} : fmtD (.int i) = if i.natAbs.log2 < 1920 then some (.str (toString i)) else none := rfl
theorem js_s {a x : Str} : jsD a (.str x) = if (a ++ x).length ≤ 16777216 then some (a ++ x) else none := rfl
theorem wm_js0 {a : Str} {Q : D → Dn.Env → Prop} : Wm (gJs [] a) ρ Q ↔ Q (.str a) ρ := wo_some
theorem wm_js {a : Str} {g : Md D} {gs : List (Md D)} {Q : D → Dn.Env → Prop} : Wm (gJs (g :: gs) a) ρ Q ↔ Wm g ρ fun d ρ1 => Wo (jsD a d) fun z => Wm (gJs gs z) ρ1 Q := by
  unfold Wm
  show Wo ((g ρ).bind _) _ ↔ _
  simp only [wo_bind]
def srtU : D → Option D
  | .dict es => if es.isEmpty = false ∧ (es.all fun p => isKey p.1) = true ∧ sortOkT (es.map (·.1)) = true then some (.list ((es.map (·.1)).mergeSort leD3)) else none
  | _ => none
theorem wm_sortU {g : Md D} {Q : D → Dn.Env → Prop} : Wm (gSortU g) ρ Q ↔ Wm g ρ fun d ρ1 => Wo (srtU d) fun r => Q r ρ1 := by
  unfold Wm gSortU
  rw [wo_bind]
  refine Iff.of_eq (congrArg _ (funext fun p => ?_))
  obtain ⟨d, ρ1⟩ := p
  cases d with
  | dict es =>
    refine propext ?_
    show Wo (if _ then some _ else none) _ ↔ Wo (if _ then some _ else none) _
    split <;> simp only [wo_some, wo_none]
  | none => exact propext (wo_none.trans wo_none.symm)
  | bool _ => exact propext (wo_none.trans wo_none.symm)
  | int _ => exact propext (wo_none.trans wo_none.symm)
  | str _ => exact propext (wo_none.trans wo_none.symm)
  | list _ => exact propext (wo_none.trans wo_none.symm)
  | tuple _ => exact propext (wo_none.trans wo_none.symm)
def frzE (i : Nat) (ρ : Dn.Env) : Option (Option Cell) → Option (D × Dn.Env)
  | some (some (.val d)) => some (d, ρ)
  | some (some (.own false (.tuple [.dict es]))) => some (frzT es, ρ.set i (some (.val (frzT es))))
  | _ => none
theorem wm_fT {i : Nat} {Q : D → Dn.Env → Prop} : Wm (gFrzT i) ρ Q ↔ Wo (frzE i ρ ρ[i]?) fun p => Q p.1 p.2 := Iff.rfl
theorem fT_val {i : Nat} {d : D} : frzE i ρ (some (some (.val d))) = some (d, ρ) := rfl
theorem fT_own {i : Nat} {es : List (D × D)} : frzE i ρ (some (some (.own false (.tuple [.dict es])))) = some (frzT es, ρ.set i (some (.val (frzT es)))) := rfl
theorem ws_newT {i : Nat} : Ws (sNewT i) ρ R ↔ Wo (canSet ρ[i]?) fun _ => R .nx (ρ.set i (some (.own false (.tuple [.dict []])))) := by
  unfold Ws sNewT
  simp only [wo_bind, wo_some, setC_eq]
theorem txtC_own {b : Bool} {es : List (D × D)} : txtC (some (some (.own b (.tuple [.dict es])))) = some (b, es) := rfl
theorem setT_at {i : Nat} {gv gk : Md D} {v k : D} {ρ1 ρ2 : Dn.Env} {es : List (D × D)} (e1 : gv ρ = some (v, ρ1)) (o1 : ∃ b d, ρ1[i]? = some (some (.own b d))) (e2 : gk ρ1 = some (k, ρ2)) (o2 : ρ2[i]? = some (some (.own false (.tuple [.dict es])))) (hk : isKey k = true) (hl : es.length < 16777216) (q : R .nx (ρ2.set i (some (.own false (.tuple [.dict (putU es k v)]))))) : Ws (sSetT i gv gk) ρ R := by
  obtain ⟨b, d, o1⟩ := o1
  refine ⟨(.nx, ρ2.set i (some (.own false (.tuple [.dict (putU es k v)])))), ?_, q⟩
  unfold sSetT
  rw [e1]
  show (match ρ1[i]? with | some (some (.own _ _)) => (gk ρ1).bind _ | _ => none) = _
  rw [o1]
  show (gk ρ1).bind _ = _
  rw [e2]
  show (match ρ2[i]? with | some (some (.own b (.tuple [.dict es]))) => _ | _ => none) = _
  rw [o2]
  exact if_pos ⟨hk, hl⟩
theorem setT_w {i : Nat} {gv gk : Md D} (h : Wm gv ρ fun v ρ1 => (∃ b d, ρ1[i]? = some (some (.own b d))) ∧ Wm gk ρ1 fun k ρ2 => ∃ es, ρ2[i]? = some (some (.own false (.tuple [.dict es]))) ∧ isKey k = true ∧ es.length < 16777216 ∧ R .nx (ρ2.set i (some (.own false (.tuple [.dict (putU es k v)]))))) : Ws (sSetT i gv gk) ρ R := by
  obtain ⟨⟨v, ρ1⟩, e1, o1, ⟨k, ρ2⟩, e2, es, o2, hk, hl, q⟩ := h
  exact setT_at e1 o1 e2 o2 hk hl q
theorem ws_newTD {i : Nat} {gs : List (Md D × Md D)} : Ws (sNewTD i gs) ρ R ↔ Wm (gKV gs) ρ fun es ρ1 => keysOk es = true ∧ Wo (canSet ρ1[i]?) fun _ => R .nx (ρ1.set i (some (.own false (.tuple [.dict es])))) := by
  unfold Ws sNewTD Wm
  rw [wo_bind]
  refine Iff.of_eq (congrArg _ (funext fun p => propext ?_))
  by_cases h : keysOk p.1 = true
  · rw [if_pos h, wo_bind, setC_eq]
    simp only [wo_bind, wo_some, h, true_and]
  · rw [if_neg h, wo_none]
    simp [h]
theorem ws_fill {i : Nat} {gk : Md D} {gi : Md (List D)} {gt : D → Dn.Env → Option Dn.Env} {gT : D → List D → Dn.Env → Option (List D × Dn.Env)} : Ws (sFill i gk gi gt gT) ρ R ↔ Wo (txtC ρ[i]?) fun _ => Wm gk ρ fun k ρ1 => Wo (txtC ρ1[i]?) fun c =>
    (isKey k = true ∧ c.2.length < 16777216 ∧ c.1 = false) ∧ Wm gi (ρ1.set i none) fun ds ρ2 => Wo (fillD gt gT k ds [] ρ2) fun r => Wo (canSet r.2[i]?) fun _ => R .nx (r.2.set i (some (.own false (.tuple [.dict (putU c.2 k (.list r.1))])))) := by
  unfold Ws sFill Wm
  rw [wo_bind]
  refine Iff.of_eq (congrArg _ (funext fun _ => propext ?_))
  rw [wo_bind]
  refine Iff.of_eq (congrArg _ (funext fun q => propext ?_))
  rw [wo_bind]
  refine Iff.of_eq (congrArg _ (funext fun c => propext ?_))
  by_cases h : isKey q.1 = true ∧ c.2.length < 16777216 ∧ c.1 = false
  · rw [if_pos h]
    simp only [wo_bind, wo_some, setC_eq, h, true_and, and_self]
  · rw [if_neg h, wo_none]
    simp [h]
theorem fill_nil {gt : D → Dn.Env → Option Dn.Env} {gT : D → List D → Dn.Env → Option (List D × Dn.Env)} {key : D} {acc : List D} {Q : List D × Dn.Env → Prop} : Wo (fillD gt gT key [] acc ρ) Q ↔ Q (acc, ρ) := wo_some
theorem fill_cons {gt : D → Dn.Env → Option Dn.Env} {gT : D → List D → Dn.Env → Option (List D × Dn.Env)} {key d : D} {ds acc : List D} {Q : List D × Dn.Env → Prop} : Wo (fillD gt gT key (d :: ds) acc ρ) Q ↔ Wo (gt d ρ) fun ρ1 => Wo (gT key acc ρ1) fun q => Wo (fillD gt gT key ds q.1 q.2) Q := by
  show Wo ((gt d ρ).bind _) _ ↔ _
  simp only [wo_bind]
/-- a statement of a turn, and what is behind it -/
theorem ft_step {s : Sd} {k : Dn.Env → Option (List D × Dn.Env)} {Q : List D × Dn.Env → Prop} (h : Ws s ρ fun f ρ' => f = .nx ∧ Wo (k ρ') Q) : Wo ((s ρ).bind fun p => match p.1 with | .nx => k p.2 | _ => none) Q := by
  obtain ⟨⟨f, ρ1⟩, e, rfl, h⟩ := h
  rw [e]
  exact h
def retN (i : Nat) (S : Fl → Dn.Env → Prop) : Fl → Dn.Env → Prop
  | .ret d, ρ => S (.ret d) ρ
  | .nx, ρ => notOwn ρ i = true ∧ S .nx (ρ.set i none)
  | _, _ => False
theorem retn_ret {i : Nat} {S : Fl → Dn.Env → Prop} {d : D} : retN i S (.ret d) ρ ↔ S (.ret d) ρ := Iff.rfl
theorem retn_nx {i : Nat} {S : Fl → Dn.Env → Prop} : retN i S .nx ρ ↔ notOwn ρ i = true ∧ S .nx (ρ.set i none) := Iff.rfl
theorem ws_clearN {i : Nat} {g : Sd} {S : Fl → Dn.Env → Prop} : Ws (clearN i g) ρ S ↔ (notOwn ρ i = true ∧ i < ρ.length) ∧ Ws g (ρ.set i none) (retN i S) := by
  unfold Ws clearN
  by_cases h : notOwn ρ i = true ∧ i < ρ.length
  · rw [if_pos h, wo_bind]
    simp only [h, and_self, true_and]
    refine Iff.of_eq (congrArg _ (funext fun p => ?_))
    obtain ⟨f, ρ1⟩ := p
    cases f with
    | ret d => exact propext wo_some
    | nx =>
      refine propext ?_
      show Wo (if notOwn ρ1 i = true then some (Fl.nx, ρ1.set i none) else none) _ ↔ notOwn ρ1 i = true ∧ S .nx (ρ1.set i none)
      by_cases hn : notOwn ρ1 i = true
      · rw [if_pos hn, wo_some]
        simp [hn]
      · rw [if_neg hn, wo_none]
        simp [hn]
    | brk => exact propext wo_none
    | cnt => exact propext wo_none
    | rof d => exact propext wo_none
  · rw [if_neg h, wo_none]
    simp [h]
theorem wx_tryN {i : Nat} {h : Str → Option Bool} {gb : Sx} {gs : Xc → Sd} {S : Fl → Dn.Env → Prop} {R : Xc → Dn.Env → Prop} : Wx (xTryN i h gb gs) ρ S R ↔ Wx gb ρ S fun x ρ1 => Wo (h x.c) fun b => if b = true then (notOwn ρ1 i = true ∧ i < ρ1.length) ∧ Ws (gs x) (ρ1.set i none) (retN i S) else R x ρ1 := by
  unfold xTryN
  rw [wx_try]
  simp only [ws_clearN]
end
end Dm
set_option maxHeartbeats 4000000
namespace Lw
open PySem PySem.Spec PyProof.Rows L2 Dn
def topS (i : Nat) : Stmt := PySem.Challenge.pw_tideweir_k83_places_of_events.main.body.getD i (.Pass ⟨0, 0, 0, 0⟩)
abbrev s__law_left : Stmt := topS 18
abbrev N__law_left : List Str := ["logs", "places", "wanted", "result", "name", "rows", "number", "kept", "index", "entry"]
theorem sc__law_left : FnScope N__law_left ["logs", "places", "wanted"] (defScope s__law_left) := ⟨rfl, rfl, rfl, by decide +kernel, rfl, by decide +kernel, by decide +kernel⟩
def g__law_left : Sd := (sSeq (sNewT 3)
  (sSeq (sFor (gKeys (gVar 0)) (gTN 4)
  (sSeq (sOwn 5 (gApp mkLst gNil))
  (sSeq (sFor (gRng1 (gCons (gApp lenF (gCons (gBin ixU (gVar 0) (gVar 4)) gNil)) gNil)) (gTN 6)
  (sSeq (sOwn 7 (gApp mkLst gNil))
  (sSeq (sFor (gRng1 (gCons (gApp lenF (gCons (gBin ixD (gBin ixU (gVar 0) (gVar 4)) (gVar 6)) gNil)) gNil)) (gTN 8)
  (sSeq (sSet 9 (gBin ixD (gBin ixD (gBin ixU (gVar 0) (gVar 4)) (gVar 6)) (gVar 8)))
  (sIf (gOr (gTst (gBin eqD (gBin ixD (gVar 9) (gC (.int 0))) (gC (.str "mark")))) (gTst (gBin eqD (gBin inD (gApp mkTup (gCons (gVar 4) (gCons (gVar 6) (gCons (gVar 8) gNil)))) (gVar 1)) (gVar 2)))) (sApp 7 (gVar 9)) sNext)))
  (sApp 5 (gFrz 7)))))
  (sSetT 3 (gFrz 5) (gVar 4)))))
  (sRet (gFrzT 3))))
def f__law_left : List D → Option D := runV 10 g__law_left
abbrev s__law_cell : Stmt := topS 12
abbrev N__law_cell : List Str := ["script", "k"]
theorem sc__law_cell : FnScope N__law_cell ["script", "k"] (defScope s__law_cell) := ⟨rfl, rfl, rfl, by decide +kernel, rfl, by decide +kernel, by decide +kernel⟩
def g__law_cell : Sd := (sSeq (sIf (gTst (gBin ltD (gVar 1) (gApp lenF (gCons (gVar 0) gNil)))) (sRet (gBin ixD (gVar 0) (gVar 1))) sNext)
  (sRet (gC (.int 0))))
def f__law_cell : List D → Option D := runV 2 g__law_cell
abbrev s__law_digit : Stmt := topS 14
abbrev N__law_digit : List Str := ["state", "many", "digit"]
theorem sc__law_digit : FnScope N__law_digit ["state", "many"] (defScope s__law_digit) := ⟨rfl, rfl, rfl, by decide +kernel, rfl, by decide +kernel, by decide +kernel⟩
def g__law_digit : Sd := (sSeq (sSet 2 (gBin modD (gApp intF (gCons (gIxB 0 (gC (.int 0))) gNil)) (gVar 1)))
  (sSeq (sSetIx 0 (gBin fdivD (gIxB 0 (gC (.int 0))) (gVar 1)) (gC (.int 0)))
  (sRet (gVar 2))))
def f__law_digit : D → List D → Option (D × D) := runIO 3 g__law_digit
abbrev s__law_entries : Stmt := topS 15
abbrev N__law_entries : List Str := ["state", "many", "entries", "k", "row"]
theorem sc__law_entries : FnScope N__law_entries ["state", "many"] (defScope s__law_entries) := ⟨rfl, rfl, rfl, by decide +kernel, rfl, by decide +kernel, by decide +kernel⟩
def g__law_entries : Sd := (sSeq (sOwn 2 (gApp mkLst gNil))
  (sSeq (sFor (gRng1 (gCons (gVar 1) gNil)) (gTN 3)
  (sIf (gTst (gBin eqD (gCallIO 0 f__law_digit (gCons (gC (.int 6)) gNil)) (gC (.int 0)))) (sApp 2 (gApp mkTup (gCons (gC (.str "mark")) (gCons (gCallIO 0 f__law_digit (gCons (gC (.int 6)) gNil)) gNil)))) (sSeq (sSet 4 (gApp mkTup (gCons (gBin ixD (gApp mkLst (gCons (gC (.str "p")) (gCons (gC (.str "q")) (gCons (gC .none) (gCons (gC (.str "p")) gNil))))) (gCallIO 0 f__law_digit (gCons (gC (.int 4)) gNil))) (gCons (gBin ixD (gApp mkLst (gCons (gC (.int 0)) (gCons (gC (.int 1)) (gCons (gC (.int 2)) (gCons (gC .none) (gCons (gC (.int 1)) gNil)))))) (gCallIO 0 f__law_digit (gCons (gC (.int 5)) gNil))) gNil))))
  (sApp 2 (gApp mkTup (gCons (gC (.str "event")) (gCons (gCallIO 0 f__law_digit (gCons (gC (.int 9)) gNil)) (gCons (gVar 4) gNil))))))))
  (sRet (gFrz 2))))
def f__law_entries : D → List D → Option (D × D) := runIO 5 g__law_entries
abbrev s__law_start : Stmt := topS 13
abbrev N__law_start : List Str := ["cell", "k", "prime", "mixed", "number", "turn"]
theorem sc__law_start : FnScope N__law_start ["cell", "k"] (defScope s__law_start) := ⟨rfl, rfl, rfl, by decide +kernel, rfl, by decide +kernel, by decide +kernel⟩
def g__law_start : Sd := (sSeq (sSet 2 (gC (.int 618970019642690137449562111)))
  (sSeq (sIf (gTst (gChain ltD ltD (gUn negD (gC (.int 1000000000000000000))) (gVar 0) (gC (.int 1000000000000000000)))) (sSeq (sSet 3 (gBin modD (gApp intF (gCons (gBin addD (gBin mulS (gVar 0) (gC (.int 2654435761))) (gBin mulS (gBin addD (gVar 1) (gC (.int 1))) (gC (.int 6700417)))) gNil)) (gVar 2)))
  (sSeq (sSet 4 (gC (.int 0)))
  (sSeq (sFor (gRng1 (gCons (gC (.int 4)) gNil)) (gTN 5)
  (sSeq (sSet 3 (gBin modD (gApp intF (gCons (gBin addD (gBin addD (gBin addD (gBin mulD (gVar 3) (gVar 3)) (gBin mulD (gC (.int 7)) (gVar 3))) (gVar 1)) (gVar 5)) gNil)) (gVar 2)))
  (sSet 4 (gBin addD (gBin mulD (gVar 4) (gVar 2)) (gVar 3)))))
  (sRof (gApp mkLst (gCons (gVar 4) gNil)))))) sNext)
  (sRof (gApp mkLst (gCons (gApp absF (gCons (gVar 0) gNil)) gNil)))))
def f__law_start : List D → Option D := runF 6 g__law_start
abbrev s__law_logs : Stmt := topS 16
abbrev N__law_logs : List Str := ["script", "k", "state", "logs"]
theorem sc__law_logs : FnScope N__law_logs ["script", "k"] (defScope s__law_logs) := ⟨rfl, rfl, rfl, by decide +kernel, rfl, by decide +kernel, by decide +kernel⟩
def g__law_logs : Sd := (sSeq (sOwn 2 (gApp f__law_start (gCons (gApp f__law_cell (gCons (gVar 0) (gCons (gBin mulD (gC (.int 2)) (gVar 1)) gNil))) (gCons (gVar 1) gNil))))
  (sSeq (sNewTD 3 [((gC (.str "s")), (gApp mkLst (gCons (gCallIO 2 f__law_entries (gCons (gC (.int 4)) gNil)) (gCons (gCallIO 2 f__law_entries (gCons (gC (.int 2)) gNil)) gNil))))])
  (sSeq (sOwn 2 (gApp f__law_start (gCons (gApp f__law_cell (gCons (gVar 0) (gCons (gBin addD (gBin mulD (gC (.int 2)) (gVar 1)) (gC (.int 1))) gNil))) (gCons (gVar 1) gNil))))
  (sSeq (sSetT 3 (gApp mkLst (gCons (gCallIO 2 f__law_entries (gCons (gC (.int 4)) gNil)) gNil)) (gC (.str "t")))
  (sRet (gApp mkTup (gCons (gFrzT 3) (gCons (gCallIO 2 f__law_digit (gCons (gC (.int 1000)) gNil)) gNil))))))))
def f__law_logs : List D → Option D := runV 4 g__law_logs
abbrev s__law_on_time : Stmt := topS 17
abbrev N__law_on_time : List Str := ["logs", "places", "name", "number", "mark", "index", "entry"]
theorem sc__law_on_time : FnScope N__law_on_time ["logs"] (defScope s__law_on_time) := ⟨rfl, rfl, rfl, by decide +kernel, rfl, by decide +kernel, by decide +kernel⟩
def g__law_on_time : Sd := (sSeq (sOwn 1 (gApp mkLst gNil))
  (sSeq (sFor (gSeq (gSortU (gVar 0))) (gTN 2)
  (sFor (gRng1 (gCons (gApp lenF (gCons (gBin ixU (gVar 0) (gVar 2)) gNil)) gNil)) (gTN 3)
  (sSeq (sSet 4 (gUn negD (gC (.int 1))))
  (sFor (gRng1 (gCons (gApp lenF (gCons (gBin ixD (gBin ixU (gVar 0) (gVar 2)) (gVar 3)) gNil)) gNil)) (gTN 5)
  (sSeq (sSet 6 (gBin ixD (gBin ixD (gBin ixU (gVar 0) (gVar 2)) (gVar 3)) (gVar 5)))
  (sIf (gTst (gBin eqD (gBin ixD (gVar 6) (gC (.int 0))) (gC (.str "mark")))) (sSet 4 (gApp maxF (gCons (gVar 4) (gCons (gBin ixD (gVar 6) (gC (.int 1))) gNil)))) (sIf (gTst (gBin gtD (gBin ixD (gVar 6) (gC (.int 1))) (gVar 4))) (sApp 1 (gApp mkTup (gCons (gVar 2) (gCons (gVar 3) (gCons (gVar 5) gNil))))) sNext)))))))
  (sRet (gFrz 1))))
def f__law_on_time : List D → Option D := runV 7 g__law_on_time
abbrev s_event_at : Stmt := topS 7
abbrev N_event_at : List Str := ["logs", "place", "name", "number", "index", "entry"]
theorem sc_event_at : FnScope N_event_at ["logs", "place"] (defScope s_event_at) := ⟨rfl, rfl, rfl, by decide +kernel, rfl, by decide +kernel, by decide +kernel⟩
def g_event_at : Sx := (xSeq (xOk (sAsg (gVar 1) (gTTup 3 (gTCons (gTN 2) (gTCons (gTN 3) (gTCons (gTN 4) gTNil))))))
  (xSeq (xOk (sIf (gAnd (gTst (gBin inU (gVar 2) (gVar 0))) (gAnd (gTst (gChain leD ltD (gC (.int 0)) (gVar 3) (gApp lenF (gCons (gBin ixU (gVar 0) (gVar 2)) gNil)))) (gTst (gChain leD ltD (gC (.int 0)) (gVar 4) (gApp lenF (gCons (gBin ixD (gBin ixU (gVar 0) (gVar 2)) (gVar 3)) gNil)))))) (sSeq (sSet 5 (gBin ixD (gBin ixD (gBin ixU (gVar 0) (gVar 2)) (gVar 3)) (gVar 4)))
  (sIf (gTst (gBin eqD (gBin ixD (gVar 5) (gC (.int 0))) (gC (.str "event")))) (sRet (gVar 5)) sNext)) sNext))
  (xRaise "InvalidLogs" (gJs [(gC (.str "there is no event at ")), (gFmt (gVar 2)), (gC (.str ", ")), (gFmt (gVar 3)), (gC (.str ", ")), (gFmt (gVar 4))] Str.empty))))
def f_event_at : List D → Option (D ⊕ Xc) := runX 6 g_event_at
abbrev s_left_in : Stmt := topS 8
abbrev N_left_in : List Str := ["logs", "places", "wanted", "place", "result", "name", "number", "entries", "kept", "index", "entry"]
theorem sc_left_in : FnScope N_left_in ["logs", "places", "wanted"] (defScope s_left_in) := ⟨rfl, rfl, rfl, by decide +kernel, rfl, by decide +kernel, by decide +kernel⟩
def g_left_in : Sx := (xSeq (xFor (gSeq (gVar 1)) (gTN 3)
  (xDrop (xCall f_event_at (xOk (gCons (gVar 0) (gCons (gVar 3) gNil))))))
  (xSeq (xOk (sNewT 4))
  (xSeq (xOk (sFor (gKeys (gVar 0)) (gTN 5)
  (sFill 4 (gVar 5) (gEnum (gCons (gBin ixU (gVar 0) (gVar 5)) gNil)) (gTTup 2 (gTCons (gTN 6) (gTCons (gTN 7) gTNil))) (fun key => (fun acc ρ => ((sOwn 8 (gApp mkLst gNil)) ρ).bind fun p => match p.1 with | .nx => (fun acc ρ => ((sFor (gEnum (gCons (gVar 7) gNil)) (gTTup 2 (gTCons (gTN 9) (gTCons (gTN 10) gTNil)))
  (sIf (gOr (gTst (gBin eqD (gBin ixD (gVar 10) (gC (.int 0))) (gC (.str "mark")))) (gTst (gBin eqD (gBin inD (gApp mkTup (gCons (gVar 5) (gCons (gVar 6) (gCons (gVar 9) gNil)))) (gVar 1)) (gVar 2)))) (sApp 8 (gVar 10)) sNext)) ρ).bind fun p => match p.1 with | .nx => (fun acc ρ => ((gVar 5) ρ).bind fun q => if keyEq q.1 key = true ∧ acc.length < 16777216 then ((gFrz 8) q.2).bind fun r => some (acc ++ [r.1], r.2) else none) acc p.2 | _ => none) acc p.2 | _ => none)))))
  (xOk (sRet (gFrzT 4))))))
def f_left_in : List D → Option (D ⊕ Xc) := runX 11 g_left_in
abbrev s_only_these : Stmt := topS 9
abbrev N_only_these : List Str := ["logs", "places"]
theorem sc_only_these : FnScope N_only_these ["logs", "places"] (defScope s_only_these) := ⟨rfl, rfl, rfl, by decide +kernel, rfl, by decide +kernel, by decide +kernel⟩
def g_only_these : Sx := (xRet (xCall f_left_in (xOk (gCons (gVar 0) (gCons (gVar 1) (gCons (gC (.bool true)) gNil))))))
def f_only_these : List D → Option (D ⊕ Xc) := runX 2 g_only_these
abbrev s_without_these : Stmt := topS 10
abbrev N_without_these : List Str := ["logs", "places"]
theorem sc_without_these : FnScope N_without_these ["logs", "places"] (defScope s_without_these) := ⟨rfl, rfl, rfl, by decide +kernel, rfl, by decide +kernel, by decide +kernel⟩
def g_without_these : Sx := (xRet (xCall f_left_in (xOk (gCons (gVar 0) (gCons (gVar 1) (gCons (gC (.bool false)) gNil))))))
def f_without_these : List D → Option (D ⊕ Xc) := runX 2 g_without_these
abbrev s__law_refused : Stmt := topS 19
abbrev N__law_refused : List Str := ["logs", "place", "told", "wanted", "e", "due"]
theorem sc__law_refused : FnScope N__law_refused ["logs", "place"] (defScope s__law_refused) := ⟨rfl, rfl, rfl, by decide +kernel, rfl, by decide +kernel, by decide +kernel⟩
def g__law_refused : Sd := (sSeq (sOwn 2 (gApp mkLst gNil))
  (sSeq (sFor (gSeq (gApp mkLst (gCons (gC (.bool true)) (gCons (gC (.bool false)) gNil)))) (gTN 3)
  (noX (xTryN 4 (hL [("InvalidLogs", true, fun m => ((sApp 2 (gC (.str m)))))]) (xSeq (xIf (xOk (gTru (gVar 3))) (xDrop (xCall f_only_these (xOk (gCons (gVar 0) (gCons (gApp mkLst (gCons (gVar 1) gNil)) gNil))))) (xDrop (xCall f_without_these (xOk (gCons (gVar 0) (gCons (gApp mkLst (gCons (gVar 1) gNil)) gNil))))))
  (xOk (sRet (gC (.bool false))))) (gL [("InvalidLogs", true, fun m => ((sApp 2 (gC (.str m)))))]))))
  (sSeq (sSet 5 (gBin addD (gBin addD (gBin addD (gBin addD (gBin addD (gC (.str "there is no event at ")) (gBin ixD (gVar 1) (gC (.int 0)))) (gC (.str ", "))) (gApp strF (gCons (gBin ixD (gVar 1) (gC (.int 1))) gNil))) (gC (.str ", "))) (gApp strF (gCons (gBin ixD (gVar 1) (gC (.int 2))) gNil))))
  (sRet (gOpBL eqD 2 (gApp mkLst (gCons (gVar 5) (gCons (gVar 5) gNil))))))))
def f__law_refused : List D → Option D := runV 6 g__law_refused
abbrev s_late_indexes : Stmt := topS 4
abbrev N_late_indexes : List Str := ["entries", "late", "mark", "index", "entry"]
theorem sc_late_indexes : FnScope N_late_indexes ["entries"] (defScope s_late_indexes) := ⟨rfl, rfl, rfl, by decide +kernel, rfl, by decide +kernel, by decide +kernel⟩
def g_late_indexes : Sd := (sSeq (sOwn 1 (gApp mkLst gNil))
  (sSeq (sSet 2 (gUn negD (gC (.int 1))))
  (sSeq (sFor (gEnum (gCons (gVar 0) gNil)) (gTTup 2 (gTCons (gTN 3) (gTCons (gTN 4) gTNil)))
  (sIf (gTst (gBin eqD (gBin ixD (gVar 4) (gC (.int 0))) (gC (.str "mark")))) (sSet 2 (gApp maxF (gCons (gVar 2) (gCons (gBin ixD (gVar 4) (gC (.int 1))) gNil)))) (sIf (gTst (gBin leD (gBin ixD (gVar 4) (gC (.int 1))) (gVar 2))) (sApp 1 (gVar 3)) sNext)))
  (sRet (gFrz 1)))))
def f_late_indexes : List D → Option D := runV 5 g_late_indexes
abbrev s_events_of : Stmt := topS 6
abbrev N_events_of : List Str := ["logs", "places", "name", "number", "entries", "late", "index", "entry"]
theorem sc_events_of : FnScope N_events_of ["logs"] (defScope s_events_of) := ⟨rfl, rfl, rfl, by decide +kernel, rfl, by decide +kernel, by decide +kernel⟩
def g_events_of : Sd := (sSeq (sOwn 1 (gApp mkLst gNil))
  (sSeq (sFor (gSeq (gSortU (gVar 0))) (gTN 2)
  (sFor (gEnum (gCons (gBin ixU (gVar 0) (gVar 2)) gNil)) (gTTup 2 (gTCons (gTN 3) (gTCons (gTN 4) gTNil)))
  (sSeq (sSet 5 (gApp f_late_indexes (gCons (gVar 4) gNil)))
  (sFor (gEnum (gCons (gVar 4) gNil)) (gTTup 2 (gTCons (gTN 6) (gTCons (gTN 7) gTNil)))
  (sIf (gAnd (gTst (gBin eqD (gBin ixD (gVar 7) (gC (.int 0))) (gC (.str "event")))) (gTst (gBin ninD (gVar 6) (gVar 5)))) (sApp 1 (gApp mkTup (gCons (gVar 2) (gCons (gVar 3) (gCons (gVar 6) gNil))))) sNext)))))
  (sRet (gFrz 1))))
def f_events_of : List D → Option D := runV 8 g_events_of
abbrev s_law : Stmt := topS 20
abbrev N_law : List Str := ["script", "k", "logs", "row", "kept", "places", "some", "chosen", "name", "number", "index", "j"]
theorem sc_law : FnScope N_law ["script"] (defScope s_law) := ⟨rfl, rfl, rfl, by decide +kernel, rfl, by decide +kernel, by decide +kernel⟩
def g_law : Sd := (sSeq (sFor (gRng1 (gCons (gApp minF (gCons (gC (.int 8)) (gCons (gApp maxF (gCons (gC (.int 1)) (gCons (gBin fdivD (gApp lenF (gCons (gVar 0) gNil)) (gC (.int 2))) gNil))) gNil))) gNil)) (gTN 1)
  (sSeq (sAsg (gApp f__law_logs (gCons (gVar 0) (gCons (gVar 1) gNil))) (gTTup 2 (gTCons (gTN 2) (gTCons (gTN 3) gTNil))))
  (sSeq (sSet 4 (gApp reprFU (gCons (gVar 2) gNil)))
  (sSeq (sSet 5 (gApp f__law_on_time (gCons (gVar 2) gNil)))
  (sSeq (sIf (gTst (gBin neD (gApp f_events_of (gCons (gVar 2) gNil)) (gVar 5))) (sRet (gC (.bool false))) sNext)
  (sSeq (sOwn 6 (gLc [11] (gRng1 (gCons (gApp lenF (gCons (gVar 5) gNil)) gNil)) (gTN 11) (gTst (gBin eqD (gBin modD (gBin fdivD (gVar 3) (gBin ixD (gApp mkLst (gCons (gC (.int 1)) (gCons (gC (.int 2)) (gCons (gC (.int 4)) (gCons (gC (.int 8)) gNil))))) (gBin modD (gVar 11) (gC (.int 4))))) (gC (.int 2))) (gC (.int 1)))) (gBin ixD (gVar 5) (gVar 11))))
  (sSeq (sFor (gSeq (gApp mkLst (gCons (gVar 5) (gCons (gApp mkLst gNil) (gCons (gFrz 6) gNil))))) (gTN 7)
  (sSeq (sIf (gTst (gBin neDU (gApp (noR f_only_these) (gCons (gVar 2) (gCons (gVar 7) gNil))) (gApp f__law_left (gCons (gVar 2) (gCons (gVar 7) (gCons (gC (.bool true)) gNil)))))) (sRet (gC (.bool false))) sNext)
  (sIf (gTst (gBin neDU (gApp (noR f_without_these) (gCons (gVar 2) (gCons (gVar 7) gNil))) (gApp f__law_left (gCons (gVar 2) (gCons (gVar 7) (gCons (gC (.bool false)) gNil)))))) (sRet (gC (.bool false))) sNext)))
  (sSeq (sFor (gSeq (gApp mkLst (gCons (gApp mkTup (gCons (gC (.str "s")) (gCons (gC (.int 0)) (gCons (gC (.int 9)) gNil)))) (gCons (gApp mkTup (gCons (gC (.str "s")) (gCons (gC (.int 2)) (gCons (gC (.int 0)) gNil)))) (gCons (gApp mkTup (gCons (gC (.str "u")) (gCons (gC (.int 0)) (gCons (gC (.int 0)) gNil)))) (gCons (gApp mkTup (gCons (gC (.str "t")) (gCons (gC (.int 1)) (gCons (gC (.int 1)) gNil)))) gNil)))))) (gTTup 3 (gTCons (gTN 8) (gTCons (gTN 9) (gTCons (gTN 10) gTNil))))
  (sIf (gNot (gTru (gApp f__law_refused (gCons (gVar 2) (gCons (gApp mkTup (gCons (gVar 8) (gCons (gVar 9) (gCons (gVar 10) gNil)))) gNil))))) (sRet (gC (.bool false))) sNext))
  (sSeq (sFor (gRng1 (gCons (gApp lenF (gCons (gBin ixD (gBin ixU (gVar 2) (gC (.str "t"))) (gC (.int 0))) gNil)) gNil)) (gTN 10)
  (sIf (gAnd (gTst (gBin eqD (gBin ixD (gBin ixD (gBin ixD (gBin ixU (gVar 2) (gC (.str "t"))) (gC (.int 0))) (gVar 10)) (gC (.int 0))) (gC (.str "mark")))) (gNot (gTru (gApp f__law_refused (gCons (gVar 2) (gCons (gApp mkTup (gCons (gC (.str "t")) (gCons (gC (.int 0)) (gCons (gVar 10) gNil)))) gNil)))))) (sRet (gC (.bool false))) sNext))
  (sIf (gTst (gBin neD (gApp reprFU (gCons (gVar 2) gNil)) (gVar 4))) (sRet (gC (.bool false))) sNext))))))))))
  (sRet (gC (.bool true))))
def f_law : List D → Option D := runV 12 g_law
set_option genInjectivity false in
set_option genSizeOf false in
structure Txt (P : Program) (K : PySem.W.Frag) (mg : Str → Option Value) where
  a__law_left : Addr
  d__law_left : FuncData
  F__law_left : Fun K "_law_left" "_law_left" s__law_left a__law_left d__law_left
  m__law_left : mg "_law_left" = some (.ref a__law_left)
  a__law_cell : Addr
  d__law_cell : FuncData
  F__law_cell : Fun K "_law_cell" "_law_cell" s__law_cell a__law_cell d__law_cell
  m__law_cell : mg "_law_cell" = some (.ref a__law_cell)
  a__law_digit : Addr
  d__law_digit : FuncData
  F__law_digit : Fun K "_law_digit" "_law_digit" s__law_digit a__law_digit d__law_digit
  m__law_digit : mg "_law_digit" = some (.ref a__law_digit)
  a__law_entries : Addr
  d__law_entries : FuncData
  F__law_entries : Fun K "_law_entries" "_law_entries" s__law_entries a__law_entries d__law_entries
  m__law_entries : mg "_law_entries" = some (.ref a__law_entries)
  a__law_start : Addr
  d__law_start : FuncData
  F__law_start : Fun K "_law_start" "_law_start" s__law_start a__law_start d__law_start
  m__law_start : mg "_law_start" = some (.ref a__law_start)
  a__law_logs : Addr
  d__law_logs : FuncData
  F__law_logs : Fun K "_law_logs" "_law_logs" s__law_logs a__law_logs d__law_logs
  m__law_logs : mg "_law_logs" = some (.ref a__law_logs)
  a__law_on_time : Addr
  d__law_on_time : FuncData
  F__law_on_time : Fun K "_law_on_time" "_law_on_time" s__law_on_time a__law_on_time d__law_on_time
  m__law_on_time : mg "_law_on_time" = some (.ref a__law_on_time)
  a_event_at : Addr
  d_event_at : FuncData
  F_event_at : Fun K "event_at" "event_at" s_event_at a_event_at d_event_at
  m_event_at : mg "event_at" = some (.ref a_event_at)
  a_left_in : Addr
  d_left_in : FuncData
  F_left_in : Fun K "left_in" "left_in" s_left_in a_left_in d_left_in
  m_left_in : mg "left_in" = some (.ref a_left_in)
  a_only_these : Addr
  d_only_these : FuncData
  F_only_these : Fun K "only_these" "only_these" s_only_these a_only_these d_only_these
  m_only_these : mg "only_these" = some (.ref a_only_these)
  a_without_these : Addr
  d_without_these : FuncData
  F_without_these : Fun K "without_these" "without_these" s_without_these a_without_these d_without_these
  m_without_these : mg "without_these" = some (.ref a_without_these)
  a__law_refused : Addr
  d__law_refused : FuncData
  F__law_refused : Fun K "_law_refused" "_law_refused" s__law_refused a__law_refused d__law_refused
  m__law_refused : mg "_law_refused" = some (.ref a__law_refused)
  a_late_indexes : Addr
  d_late_indexes : FuncData
  F_late_indexes : Fun K "late_indexes" "late_indexes" s_late_indexes a_late_indexes d_late_indexes
  m_late_indexes : mg "late_indexes" = some (.ref a_late_indexes)
  a_events_of : Addr
  d_events_of : FuncData
  F_events_of : Fun K "events_of" "events_of" s_events_of a_events_of d_events_of
  m_events_of : mg "events_of" = some (.ref a_events_of)
  a_law : Addr
  d_law : FuncData
  F_law : Fun K "law" "law" s_law a_law d_law
  m_law : mg "law" = some (.ref a_law)
  z_abs : mg "abs" = none
  z_enumerate : mg "enumerate" = none
  z_int : mg "int" = none
  z_len : mg "len" = none
  z_max : mg "max" = none
  z_min : mg "min" = none
  z_range : mg "range" = none
  z_repr : mg "repr" = none
  z_sorted : mg "sorted" = none
  z_str : mg "str" = none
  CT : Addr
  fI : Addr
  C_InvalidLogs : Addr
  X_InvalidLogs : Tw.TdTxt P K mg "InvalidLogs" C_InvalidLogs CT fI
  ex_InvalidLogs_InvalidLogs : PySem.W.exmOne K (.ref C_InvalidLogs) (.ref C_InvalidLogs) = some true
section
variable {P : Program} {w : World} {K : PySem.W.Frag} {mg : Str → Option Value} {base : Heap} (T : Txt P K mg)
theorem bd__law_left : Binds K T.d__law_left ["logs", "places", "wanted"] [] := T.F__law_left.binds (ps := ["logs", "places", "wanted"]) fun _ _ _ _ _ _ us hl => match us, hl with | [_, _, _], _ => rfl
theorem ok__law_left : FnOk P w K mg base CX0 1 T.a__law_left T.d__law_left ["logs", "places", "wanted"] (spV ⟨K, P, w⟩ 3 f__law_left) := fn_V (N := N__law_left) (g := g__law_left) T.F__law_left sc__law_left fun cdv A outer s H E hr =>
  (dss_cons (ds_newT (i := 3) sc__law_left.nd rfl (.inl rfl))
    (dss_cons (ds_for PassesOwn.never rfl (di_keys (dv 0)) (dg_name (i := 4) sc__law_left.nd rfl (.inl rfl)) (dss_cons (ds_own (i := 5) sc__law_left.nd rfl (.inl rfl) (df_lst da_nl))
    (dss_cons (ds_for PassesOwn.never rfl (di_rng1 (by rfl) T.z_range (da_cs (de_callB call_lenD (by rfl) T.z_len bb_len (da_cs (de_ix (ix_U hr.units) (dv 0) (dv 4) (fun _ _ => rfl)) da_nl)) da_nl)) (dg_name (i := 6) sc__law_left.nd rfl (.inl rfl)) (dss_cons (ds_own (i := 7) sc__law_left.nd rfl (.inl rfl) (df_lst da_nl))
    (dss_cons (ds_for PassesOwn.never rfl (di_rng1 (by rfl) T.z_range (da_cs (de_callB call_lenD (by rfl) T.z_len bb_len (da_cs (de_ix ix_D (de_ix (ix_U hr.units) (dv 0) (dv 4) (fun _ _ => rfl)) (dv 6) (fun _ _ => rfl)) da_nl)) da_nl)) (dg_name (i := 8) sc__law_left.nd rfl (.inl rfl)) (dss_cons (ds_set (i := 9) sc__law_left.nd rfl (.inl rfl) (de_ix ix_D (de_ix ix_D (de_ix (ix_U hr.units) (dv 0) (dv 4) (fun _ _ => rfl)) (dv 6) (fun _ _ => rfl)) (dv 8) (fun _ _ => rfl)))
    (dss_one (ds_if (dt_bool (dt_or (dt_cmp (op_eqD' hr.units) (de_ix ix_D (dv 9) de_int (fun _ _ => rfl)) de_str (nomark _)) (dt_or1 (dt_cmp (op_eqD' hr.units) (de_cmp (op_inD' (in65 hr)) (de_tup (da_cs (dv 4) (da_cs (dv 6) (da_cs (dv 8) da_nl)))) (dv 1) (by rfl)) (dv 2) (nomark _))))) (dss_one (ds_app 7 (pe_bm PySem.F.plainAttrs_list PySem.F.slot_list_append PySem.F.type_list_append mt_append (pv 7) (pa_cons (dv 9) pa_nil)))) dss_nil))))
    (dss_one (ds_app 5 (pe_bm PySem.F.plainAttrs_list PySem.F.slot_list_append PySem.F.type_list_append mt_append (pv 5) (pa_cons (dz 7) pa_nil)))))))
    (dss_one (ds_setT 3 (in65 hr) (dz 5) (dv 4))))))
    (dss_one (ds_ret (de_frzT 3)))))
theorem bd__law_cell : Binds K T.d__law_cell ["script", "k"] [] := T.F__law_cell.binds (ps := ["script", "k"]) fun _ _ _ _ _ _ us hl => match us, hl with | [_, _], _ => rfl
theorem ok__law_cell : FnOk P w K mg base CX0 1 T.a__law_cell T.d__law_cell ["script", "k"] (spV ⟨K, P, w⟩ 2 f__law_cell) := fn_V (N := N__law_cell) (g := g__law_cell) T.F__law_cell sc__law_cell fun cdv A outer s H E hr =>
  (dss_cons (ds_if (dt_cmp (op_ltD hr.units) (dv 1) (de_callB call_lenD (by rfl) T.z_len bb_len (da_cs (dv 0) da_nl)) (nomark _)) (dss_one (ds_ret (de_ix ix_D (dv 0) (dv 1) (fun _ _ => rfl)))) dss_nil)
    (dss_one (ds_ret de_int)))
theorem bd__law_digit : Binds K T.d__law_digit ["state", "many"] [] := T.F__law_digit.binds (ps := ["state", "many"]) fun _ _ _ _ _ _ us hl => match us, hl with | [_, _], _ => rfl
theorem ok__law_digit : FnOk P w K mg base CX0 1 T.a__law_digit T.d__law_digit ["state", "many"] (spIO ⟨K, P, w⟩ 2 f__law_digit) := fn_IO (N := N__law_digit) (g := g__law_digit) T.F__law_digit sc__law_digit (by decide) fun cdv A outer s H E hr =>
  (dss_cons (ds_set (i := 2) sc__law_digit.nd rfl (.inl rfl) (de_bin op_modD (de_callTy call_intD (by rfl) T.z_int bt_int (da_cs (db_ix 0 de_int) da_nl)) (dv 1)))
    (dss_cons (db_setIx 0 (de_bin op_fdivD (db_ix 0 de_int) (dv 1)) de_int)
    (dss_one (ds_ret (dv 2)))))
theorem bd__law_entries : Binds K T.d__law_entries ["state", "many"] [] := T.F__law_entries.binds (ps := ["state", "many"]) fun _ _ _ _ _ _ us hl => match us, hl with | [_, _], _ => rfl
theorem ok__law_entries : FnOk P w K mg base CX0 2 T.a__law_entries T.d__law_entries ["state", "many"] (spIO ⟨K, P, w⟩ 2 f__law_entries) := fn_IO (N := N__law_entries) (g := g__law_entries) T.F__law_entries sc__law_entries (by decide) fun cdv A outer s H E hr =>
  (dss_cons (ds_own (i := 2) sc__law_entries.nd rfl (.inl rfl) (df_lst da_nl))
    (dss_cons (ds_for PassesOwn.never rfl (di_rng1 (by rfl) T.z_range (da_cs (dv 1) da_nl)) (dg_name (i := 3) sc__law_entries.nd rfl (.inl rfl)) (dss_one (ds_if (dt_cmp (op_eqD' hr.units) (db_io 0 (ok__law_digit T) (hr.mono (by decide)) (by rfl) T.m__law_digit T.F__law_digit.kp (bd__law_digit T) (da_cs de_int da_nl) (len_cons len_nil)) de_int (nomark _)) (dss_one (ds_app 2 (pe_bm PySem.F.plainAttrs_list PySem.F.slot_list_append PySem.F.type_list_append mt_append (pv 2) (pa_cons (de_tup (da_cs de_str (da_cs (db_io 0 (ok__law_digit T) (hr.mono (by decide)) (by rfl) T.m__law_digit T.F__law_digit.kp (bd__law_digit T) (da_cs de_int da_nl) (len_cons len_nil)) da_nl))) pa_nil)))) (dss_cons (ds_set (i := 4) sc__law_entries.nd rfl (.inl rfl) (de_tup (da_cs (de_ix ix_D (df_de (df_lst (da_cs de_str (da_cs de_str (da_cs de_non (da_cs de_str da_nl)))))) (db_io 0 (ok__law_digit T) (hr.mono (by decide)) (by rfl) T.m__law_digit T.F__law_digit.kp (bd__law_digit T) (da_cs de_int da_nl) (len_cons len_nil)) (fun _ _ => rfl)) (da_cs (de_ix ix_D (df_de (df_lst (da_cs de_int (da_cs de_int (da_cs de_int (da_cs de_non (da_cs de_int da_nl))))))) (db_io 0 (ok__law_digit T) (hr.mono (by decide)) (by rfl) T.m__law_digit T.F__law_digit.kp (bd__law_digit T) (da_cs de_int da_nl) (len_cons len_nil)) (fun _ _ => rfl)) da_nl))))
    (dss_one (ds_app 2 (pe_bm PySem.F.plainAttrs_list PySem.F.slot_list_append PySem.F.type_list_append mt_append (pv 2) (pa_cons (de_tup (da_cs de_str (da_cs (db_io 0 (ok__law_digit T) (hr.mono (by decide)) (by rfl) T.m__law_digit T.F__law_digit.kp (bd__law_digit T) (da_cs de_int da_nl) (len_cons len_nil)) (da_cs (dv 4) da_nl)))) pa_nil))))))))
    (dss_one (ds_ret (dz 2)))))
theorem bd__law_start : Binds K T.d__law_start ["cell", "k"] [] := T.F__law_start.binds (ps := ["cell", "k"]) fun _ _ _ _ _ _ us hl => match us, hl with | [_, _], _ => rfl
theorem ok__law_start : FnOk P w K mg base CX0 1 T.a__law_start T.d__law_start ["cell", "k"] (spF ⟨K, P, w⟩ 2 f__law_start) := fn_F (N := N__law_start) (g := g__law_start) T.F__law_start sc__law_start fun cdv A outer s H E hr =>
  (dss_cons (ds_set (i := 2) sc__law_start.nd rfl (.inl rfl) de_int)
    (dss_cons (ds_if (dt_chain (op_ltD hr.units) (op_ltD hr.units) (de_un un_negD de_int) (dv 0) de_int) (dss_cons (ds_set (i := 3) sc__law_start.nd rfl (.inl rfl) (de_bin op_modD (de_callTy call_intD (by rfl) T.z_int bt_int (da_cs (de_bin op_addD (de_bin op_mulS (dv 0) de_int) (de_bin op_mulS (de_bin op_addD (dv 1) de_int) de_int)) da_nl)) (dv 2)))
    (dss_cons (ds_set (i := 4) sc__law_start.nd rfl (.inl rfl) de_int)
    (dss_cons (ds_for PassesOwn.never rfl (di_rng1 (by rfl) T.z_range (da_cs de_int da_nl)) (dg_name (i := 5) sc__law_start.nd rfl (.inl rfl)) (dss_cons (ds_set (i := 3) sc__law_start.nd rfl (.inl rfl) (de_bin op_modD (de_callTy call_intD (by rfl) T.z_int bt_int (da_cs (de_bin op_addD (de_bin op_addD (de_bin op_addD (de_bin op_mulD (dv 3) (dv 3)) (de_bin op_mulD de_int (dv 3))) (dv 1)) (dv 5)) da_nl)) (dv 2)))
    (dss_one (ds_set (i := 4) sc__law_start.nd rfl (.inl rfl) (de_bin op_addD (de_bin op_mulD (dv 4) (dv 2)) (dv 3))))))
    (dss_one (ds_rof (df_lst (da_cs (dv 4) da_nl))))))) dss_nil)
    (dss_one (ds_rof (df_lst (da_cs (de_callB call_absD (by rfl) T.z_abs bb_abs (da_cs (dv 0) da_nl)) da_nl))))))
theorem bd__law_logs : Binds K T.d__law_logs ["script", "k"] [] := T.F__law_logs.binds (ps := ["script", "k"]) fun _ _ _ _ _ _ us hl => match us, hl with | [_, _], _ => rfl
theorem ok__law_logs : FnOk P w K mg base CX0 3 T.a__law_logs T.d__law_logs ["script", "k"] (spV ⟨K, P, w⟩ 2 f__law_logs) := fn_V (N := N__law_logs) (g := g__law_logs) T.F__law_logs sc__law_logs fun cdv A outer s H E hr =>
  (dss_cons (ds_own (i := 2) sc__law_logs.nd rfl (.inl rfl) (df_call (ok__law_start T) (hr.mono (by decide)) (by rfl) T.m__law_start T.F__law_start.kp (bd__law_start T) (by rfl) (da_cs (de_call (ok__law_cell T) (hr.mono (by decide)) (by rfl) T.m__law_cell T.F__law_cell.kp (bd__law_cell T) (by rfl) (da_cs (dv 0) (da_cs (de_bin op_mulD de_int (dv 1)) da_nl)) (len_cons (len_cons len_nil))) (da_cs (dv 1) da_nl)) (len_cons (len_cons len_nil))))
    (dss_cons (ds_newTD (i := 3) sc__law_logs.nd rfl (.inl rfl) (.cons de_str (df_de (df_lst (da_cs (db_io 2 (ok__law_entries T) (hr.mono (by decide)) (by rfl) T.m__law_entries T.F__law_entries.kp (bd__law_entries T) (da_cs de_int da_nl) (len_cons len_nil)) (da_cs (db_io 2 (ok__law_entries T) (hr.mono (by decide)) (by rfl) T.m__law_entries T.F__law_entries.kp (bd__law_entries T) (da_cs de_int da_nl) (len_cons len_nil)) da_nl)))) .nil) (by simp) (by decide))
    (dss_cons (ds_own (i := 2) sc__law_logs.nd rfl (.inl rfl) (df_call (ok__law_start T) (hr.mono (by decide)) (by rfl) T.m__law_start T.F__law_start.kp (bd__law_start T) (by rfl) (da_cs (de_call (ok__law_cell T) (hr.mono (by decide)) (by rfl) T.m__law_cell T.F__law_cell.kp (bd__law_cell T) (by rfl) (da_cs (dv 0) (da_cs (de_bin op_addD (de_bin op_mulD de_int (dv 1)) de_int) da_nl)) (len_cons (len_cons len_nil))) (da_cs (dv 1) da_nl)) (len_cons (len_cons len_nil))))
    (dss_cons (ds_setT 3 (in65 hr) (df_de (df_lst (da_cs (db_io 2 (ok__law_entries T) (hr.mono (by decide)) (by rfl) T.m__law_entries T.F__law_entries.kp (bd__law_entries T) (da_cs de_int da_nl) (len_cons len_nil)) da_nl))) de_str)
    (dss_one (ds_ret (de_tup (da_cs (de_frzT 3) (da_cs (db_io 2 (ok__law_digit T) (hr.mono (by decide)) (by rfl) T.m__law_digit T.F__law_digit.kp (bd__law_digit T) (da_cs de_int da_nl) (len_cons len_nil)) da_nl)))))))))
theorem bd__law_on_time : Binds K T.d__law_on_time ["logs"] [] := T.F__law_on_time.binds (ps := ["logs"]) fun _ _ _ _ _ _ us hl => match us, hl with | [_], _ => rfl
theorem ok__law_on_time : FnOk P w K mg base CX0 1 T.a__law_on_time T.d__law_on_time ["logs"] (spV ⟨K, P, w⟩ 1 f__law_on_time) := fn_V (N := N__law_on_time) (g := g__law_on_time) T.F__law_on_time sc__law_on_time fun cdv A outer s H E hr =>
  (dss_cons (ds_own (i := 1) sc__law_on_time.nd rfl (.inl rfl) (df_lst da_nl))
    (dss_cons (ds_for PassesOwn.never rfl (di_seq (df_de (df_sortU rfl (in65 hr) (by rfl) T.z_sorted bb_sorted (dv 0)))) (dg_name (i := 2) sc__law_on_time.nd rfl (.inl rfl)) (dss_one (ds_for PassesOwn.never rfl (di_rng1 (by rfl) T.z_range (da_cs (de_callB call_lenD (by rfl) T.z_len bb_len (da_cs (de_ix (ix_U hr.units) (dv 0) (dv 2) (fun _ _ => rfl)) da_nl)) da_nl)) (dg_name (i := 3) sc__law_on_time.nd rfl (.inl rfl)) (dss_cons (ds_set (i := 4) sc__law_on_time.nd rfl (.inl rfl) (de_un un_negD de_int))
    (dss_one (ds_for PassesOwn.never rfl (di_rng1 (by rfl) T.z_range (da_cs (de_callB call_lenD (by rfl) T.z_len bb_len (da_cs (de_ix ix_D (de_ix (ix_U hr.units) (dv 0) (dv 2) (fun _ _ => rfl)) (dv 3) (fun _ _ => rfl)) da_nl)) da_nl)) (dg_name (i := 5) sc__law_on_time.nd rfl (.inl rfl)) (dss_cons (ds_set (i := 6) sc__law_on_time.nd rfl (.inl rfl) (de_ix ix_D (de_ix ix_D (de_ix (ix_U hr.units) (dv 0) (dv 2) (fun _ _ => rfl)) (dv 3) (fun _ _ => rfl)) (dv 5) (fun _ _ => rfl)))
    (dss_one (ds_if (dt_cmp (op_eqD' hr.units) (de_ix ix_D (dv 6) de_int (fun _ _ => rfl)) de_str (nomark _)) (dss_one (ds_set (i := 4) sc__law_on_time.nd rfl (.inl rfl) (de_callB (call_maxD rfl) (by rfl) T.z_max bb_max (da_cs (dv 4) (da_cs (de_ix ix_D (dv 6) de_int (fun _ _ => rfl)) da_nl))))) (dss_one (ds_if (dt_cmp op_gtD (de_ix ix_D (dv 6) de_int (fun _ _ => rfl)) (dv 4) (nomark _)) (dss_one (ds_app 1 (pe_bm PySem.F.plainAttrs_list PySem.F.slot_list_append PySem.F.type_list_append mt_append (pv 1) (pa_cons (de_tup (da_cs (dv 2) (da_cs (dv 3) (da_cs (dv 5) da_nl)))) pa_nil)))) dss_nil)))))))))))
    (dss_one (ds_ret (dz 1)))))
theorem bd_event_at : Binds K T.d_event_at ["logs", "place"] [] := T.F_event_at.binds (ps := ["logs", "place"]) fun _ _ _ _ _ _ us hl => match us, hl with | [_, _], _ => rfl
theorem ok_event_at : FnOk P w K mg base (L2.CX P w) 1 T.a_event_at T.d_event_at ["logs", "place"] (spX ⟨K, P, w⟩ mg 2 f_event_at) := fn_X (N := N_event_at) (g := g_event_at) T.F_event_at sc_event_at fun cdv A outer s H E hr =>
  (sxs_cons (sx_ok (ds_asg (ps_asg (dv 1) (dg_tup rfl (dgs_cons (dg_name (i := 2) sc_event_at.nd rfl (.inl rfl)) (dgs_cons (dg_name (i := 3) sc_event_at.nd rfl (.inl rfl)) (dgs_cons (dg_name (i := 4) sc_event_at.nd rfl (.inl rfl)) dgs_nil)))))))
    (sxs_cons (sx_ok (ds_if (dt_bool (dt_and (dt_cmp (op_inU (in65 hr)) (dv 2) (dv 0) (by rfl)) (dt_and (dt_chain op_leD (op_ltD hr.units) de_int (dv 3) (de_callB call_lenD (by rfl) T.z_len bb_len (da_cs (de_ix (ix_U hr.units) (dv 0) (dv 2) (fun _ _ => rfl)) da_nl))) (dt_and1 (dt_chain op_leD (op_ltD hr.units) de_int (dv 4) (de_callB call_lenD (by rfl) T.z_len bb_len (da_cs (de_ix ix_D (de_ix (ix_U hr.units) (dv 0) (dv 2) (fun _ _ => rfl)) (dv 3) (fun _ _ => rfl)) da_nl))))))) (dss_cons (ds_set (i := 5) sc_event_at.nd rfl (.inl rfl) (de_ix ix_D (de_ix ix_D (de_ix (ix_U hr.units) (dv 0) (dv 2) (fun _ _ => rfl)) (dv 3) (fun _ _ => rfl)) (dv 4) (fun _ _ => rfl)))
    (dss_one (ds_if (dt_cmp (op_eqD' hr.units) (de_ix ix_D (dv 5) de_int (fun _ _ => rfl)) de_str (nomark _)) (dss_one (ds_ret (dv 5))) dss_nil))) dss_nil))
    (sxs_one (sx_raise rfl T.X_InvalidLogs hr (takes_of rfl rfl rfl rfl) (de_js (.cons de_str (.cons (de_fmt (dv 2)) (.cons de_str (.cons (de_fmt (dv 3)) (.cons de_str (.cons (de_fmt (dv 4)) .nil))))))) (by rfl)))))
theorem bd_left_in : Binds K T.d_left_in ["logs", "places", "wanted"] [] := T.F_left_in.binds (ps := ["logs", "places", "wanted"]) fun _ _ _ _ _ _ us hl => match us, hl with | [_, _, _], _ => rfl
theorem ok_left_in : FnOk P w K mg base (L2.CX P w) 2 T.a_left_in T.d_left_in ["logs", "places", "wanted"] (spX ⟨K, P, w⟩ mg 3 f_left_in) := fn_X (N := N_left_in) (g := g_left_in) T.F_left_in sc_left_in fun cdv A outer s H E hr =>
  (sxs_cons (sx_for (passes_of rfl) rfl (di_seq (dv 1)) (dg_name (i := 3) sc_left_in.nd rfl (.inl rfl)) (sxs_one (sx_expr (ex_call (takes_of rfl rfl rfl rfl) (ok_event_at T) (hr.mono (by decide)) (by rfl) T.m_event_at T.F_event_at.kp (bd_event_at T) (ax_ok (da_cs (dv 0) (da_cs (dv 3) da_nl))) (xlen_ok (len_cons (len_cons len_nil)))))))
    (sxs_cons (sx_ok (ds_newT (i := 4) sc_left_in.nd rfl (.inl rfl)))
    (sxs_cons (sx_ok (ds_for (passes_of rfl) rfl (di_keys (dv 0)) (dg_name (i := 5) sc_left_in.nd rfl (.inl rfl)) (dss_fill 4 (in65 hr) rfl (passes_of rfl) (df_lst da_nl) (dv 5) (di_enum (by rfl) T.z_enumerate (da_cs (de_ix (ix_U hr.units) (dv 0) (dv 5) (fun _ _ => rfl)) da_nl)) (dg_tup rfl (dgs_cons (dg_name (i := 6) sc_left_in.nd rfl (.inl rfl)) (dgs_cons (dg_name (i := 7) sc_left_in.nd rfl (.inl rfl)) dgs_nil))) (by decide) (fun kk => (ft_cons (dk_own (j := 8) (by decide) sc_left_in.nd rfl (.inl rfl) (df_lst da_nl))
    (ft_cons (dk_for (passes_of rfl) rfl (di_enum (by rfl) T.z_enumerate (da_cs (dv 7) da_nl)) (dg_tup rfl (dgs_cons (dg_name (i := 9) sc_left_in.nd rfl (.inl rfl)) (dgs_cons (dg_name (i := 10) sc_left_in.nd rfl (.inl rfl)) dgs_nil))) (by decide) (dks_one (dk_if (dt_bool (dt_or (dt_cmp (op_eqD' hr.units) (de_ix ix_D (dv 10) de_int (fun _ _ => rfl)) de_str (nomark _)) (dt_or1 (dt_cmp (op_eqD' hr.units) (de_cmp (op_inD' (in65 hr)) (de_tup (da_cs (dv 5) (da_cs (dv 6) (da_cs (dv 9) da_nl)))) (dv 1) (by rfl)) (dv 2) (nomark _))))) (dks_one (dk_app 8 (pe_bm PySem.F.plainAttrs_list PySem.F.slot_list_append PySem.F.type_list_append mt_append (pv 8) (pa_cons (dv 10) pa_nil)))) dks_nil)))
    (ft_last (i := 4) (pe_bm PySem.F.plainAttrs_list PySem.F.slot_list_append PySem.F.type_list_append mt_append (pe_dget (Nat.lt_of_le_of_lt (Nat.add_le_add_left (by decide : 1 ≤ 65) _) (in65 hr)) (pv 4) (dv 5) (fun _ _ => rfl)) (pa_cons (dz 8) pa_nil)))))))))
    (sxs_one (sx_ok (ds_ret (de_frzT 4)))))))
theorem bd_only_these : Binds K T.d_only_these ["logs", "places"] [] := T.F_only_these.binds (ps := ["logs", "places"]) fun _ _ _ _ _ _ us hl => match us, hl with | [_, _], _ => rfl
theorem ok_only_these : FnOk P w K mg base (L2.CX P w) 3 T.a_only_these T.d_only_these ["logs", "places"] (spX ⟨K, P, w⟩ mg 2 f_only_these) := fn_X (N := N_only_these) (g := g_only_these) T.F_only_these sc_only_these fun cdv A outer s H E hr =>
  (sxs_one (sx_ret (ex_call (takes_of rfl rfl rfl rfl) (ok_left_in T) (hr.mono (by decide)) (by rfl) T.m_left_in T.F_left_in.kp (bd_left_in T) (ax_ok (da_cs (dv 0) (da_cs (dv 1) (da_cs de_bl da_nl)))) (xlen_ok (len_cons (len_cons (len_cons len_nil)))))))
theorem bd_without_these : Binds K T.d_without_these ["logs", "places"] [] := T.F_without_these.binds (ps := ["logs", "places"]) fun _ _ _ _ _ _ us hl => match us, hl with | [_, _], _ => rfl
theorem ok_without_these : FnOk P w K mg base (L2.CX P w) 3 T.a_without_these T.d_without_these ["logs", "places"] (spX ⟨K, P, w⟩ mg 2 f_without_these) := fn_X (N := N_without_these) (g := g_without_these) T.F_without_these sc_without_these fun cdv A outer s H E hr =>
  (sxs_one (sx_ret (ex_call (takes_of rfl rfl rfl rfl) (ok_left_in T) (hr.mono (by decide)) (by rfl) T.m_left_in T.F_left_in.kp (bd_left_in T) (ax_ok (da_cs (dv 0) (da_cs (dv 1) (da_cs de_bl da_nl)))) (xlen_ok (len_cons (len_cons (len_cons len_nil)))))))
theorem bd__law_refused : Binds K T.d__law_refused ["logs", "place"] [] := T.F__law_refused.binds (ps := ["logs", "place"]) fun _ _ _ _ _ _ us hl => match us, hl with | [_, _], _ => rfl
theorem ok__law_refused : FnOk P w K mg base CX0 4 T.a__law_refused T.d__law_refused ["logs", "place"] (spV ⟨K, P, w⟩ 2 f__law_refused) := fn_V (N := N__law_refused) (g := g__law_refused) T.F__law_refused sc__law_refused fun cdv A outer s H E hr =>
  (dss_cons (ds_own (i := 2) sc__law_refused.nd rfl (.inl rfl) (df_lst da_nl))
    (dss_cons (ds_for PassesOwn.never rfl (di_seq (df_de (df_lst (da_cs de_bl (da_cs de_bl da_nl))))) (dg_name (i := 3) sc__law_refused.nd rfl (.inl rfl)) (dss_one (ds_noX (sx_tryM (i := 4) rfl rfl sc__law_refused.nd rfl rfl ⟨by rfl, by decide, .inl T.X_InvalidLogs.gC⟩ Dn.takes0 (fun W pn xe tk hpo => (sxs_cons (sx_if (tx_ok (dt_tru (dv 3))) (sxs_one (sx_expr (ex_call tk (ok_only_these T) (hr.mono (by decide)) (by rfl) T.m_only_these T.F_only_these.kp (bd_only_these T) (ax_ok (da_cs (dv 0) (da_cs (df_de (df_lst (da_cs (dv 1) da_nl))) da_nl))) (xlen_ok (len_cons (len_cons len_nil)))))) (sxs_one (sx_expr (ex_call tk (ok_without_these T) (hr.mono (by decide)) (by rfl) T.m_without_these T.F_without_these.kp (bd_without_these T) (ax_ok (da_cs (dv 0) (da_cs (df_de (df_lst (da_cs (dv 1) da_nl))) da_nl))) (xlen_ok (len_cons (len_cons len_nil)))))))
    (sxs_one (sx_ok (ds_ret de_bl))))) (HA.yes T.X_InvalidLogs.gC T.ex_InvalidLogs_InvalidLogs (fun m a dd oe pn hz hf => (mss_one (ms_app 2 (pe_bm PySem.F.plainAttrs_list PySem.F.slot_list_append PySem.F.type_list_append mt_append (pv 2) (pa_cons (me_msg T.X_InvalidLogs hz hf) pa_nil))))) HA.nil)))))
    (dss_cons (ds_set (i := 5) sc__law_refused.nd rfl (.inl rfl) (de_bin op_addD (de_bin op_addD (de_bin op_addD (de_bin op_addD (de_bin op_addD de_str (de_ix ix_D (dv 1) de_int (fun _ _ => rfl))) de_str) (de_callTy call_strD (by rfl) T.z_str bt_str (da_cs (de_ix ix_D (dv 1) de_int (fun _ _ => rfl)) da_nl))) de_str) (de_callTy call_strD (by rfl) T.z_str bt_str (da_cs (de_ix ix_D (dv 1) de_int (fun _ _ => rfl)) da_nl))))
    (dss_one (ds_ret (db_cmpL 2 (op_eqD' hr.units) (df_de (df_lst (da_cs (dv 5) (da_cs (dv 5) da_nl)))) (nomark _)))))))
theorem bd_late_indexes : Binds K T.d_late_indexes ["entries"] [] := T.F_late_indexes.binds (ps := ["entries"]) fun _ _ _ _ _ _ us hl => match us, hl with | [_], _ => rfl
theorem ok_late_indexes : FnOk P w K mg base CX0 1 T.a_late_indexes T.d_late_indexes ["entries"] (spV ⟨K, P, w⟩ 1 f_late_indexes) := fn_V (N := N_late_indexes) (g := g_late_indexes) T.F_late_indexes sc_late_indexes fun cdv A outer s H E hr =>
  (dss_cons (ds_own (i := 1) sc_late_indexes.nd rfl (.inl rfl) (df_lst da_nl))
    (dss_cons (ds_set (i := 2) sc_late_indexes.nd rfl (.inl rfl) (de_un un_negD de_int))
    (dss_cons (ds_for PassesOwn.never rfl (di_enum (by rfl) T.z_enumerate (da_cs (dv 0) da_nl)) (dg_tup rfl (dgs_cons (dg_name (i := 3) sc_late_indexes.nd rfl (.inl rfl)) (dgs_cons (dg_name (i := 4) sc_late_indexes.nd rfl (.inl rfl)) dgs_nil))) (dss_one (ds_if (dt_cmp (op_eqD' hr.units) (de_ix ix_D (dv 4) de_int (fun _ _ => rfl)) de_str (nomark _)) (dss_one (ds_set (i := 2) sc_late_indexes.nd rfl (.inl rfl) (de_callB (call_maxD rfl) (by rfl) T.z_max bb_max (da_cs (dv 2) (da_cs (de_ix ix_D (dv 4) de_int (fun _ _ => rfl)) da_nl))))) (dss_one (ds_if (dt_cmp op_leD (de_ix ix_D (dv 4) de_int (fun _ _ => rfl)) (dv 2) (nomark _)) (dss_one (ds_app 1 (pe_bm PySem.F.plainAttrs_list PySem.F.slot_list_append PySem.F.type_list_append mt_append (pv 1) (pa_cons (dv 3) pa_nil)))) dss_nil)))))
    (dss_one (ds_ret (dz 1))))))
theorem bd_events_of : Binds K T.d_events_of ["logs"] [] := T.F_events_of.binds (ps := ["logs"]) fun _ _ _ _ _ _ us hl => match us, hl with | [_], _ => rfl
theorem ok_events_of : FnOk P w K mg base CX0 2 T.a_events_of T.d_events_of ["logs"] (spV ⟨K, P, w⟩ 1 f_events_of) := fn_V (N := N_events_of) (g := g_events_of) T.F_events_of sc_events_of fun cdv A outer s H E hr =>
  (dss_cons (ds_own (i := 1) sc_events_of.nd rfl (.inl rfl) (df_lst da_nl))
    (dss_cons (ds_for PassesOwn.never rfl (di_seq (df_de (df_sortU rfl (in65 hr) (by rfl) T.z_sorted bb_sorted (dv 0)))) (dg_name (i := 2) sc_events_of.nd rfl (.inl rfl)) (dss_one (ds_for PassesOwn.never rfl (di_enum (by rfl) T.z_enumerate (da_cs (de_ix (ix_U hr.units) (dv 0) (dv 2) (fun _ _ => rfl)) da_nl)) (dg_tup rfl (dgs_cons (dg_name (i := 3) sc_events_of.nd rfl (.inl rfl)) (dgs_cons (dg_name (i := 4) sc_events_of.nd rfl (.inl rfl)) dgs_nil))) (dss_cons (ds_set (i := 5) sc_events_of.nd rfl (.inl rfl) (de_call (ok_late_indexes T) (hr.mono (by decide)) (by rfl) T.m_late_indexes T.F_late_indexes.kp (bd_late_indexes T) (by rfl) (da_cs (dv 4) da_nl) (len_cons len_nil)))
    (dss_one (ds_for PassesOwn.never rfl (di_enum (by rfl) T.z_enumerate (da_cs (dv 4) da_nl)) (dg_tup rfl (dgs_cons (dg_name (i := 6) sc_events_of.nd rfl (.inl rfl)) (dgs_cons (dg_name (i := 7) sc_events_of.nd rfl (.inl rfl)) dgs_nil))) (dss_one (ds_if (dt_bool (dt_and (dt_cmp (op_eqD' hr.units) (de_ix ix_D (dv 7) de_int (fun _ _ => rfl)) de_str (nomark _)) (dt_and1 (dt_cmp (op_ninD' (in65 hr)) (dv 6) (dv 5) (by rfl))))) (dss_one (ds_app 1 (pe_bm PySem.F.plainAttrs_list PySem.F.slot_list_append PySem.F.type_list_append mt_append (pv 1) (pa_cons (de_tup (da_cs (dv 2) (da_cs (dv 3) (da_cs (dv 6) da_nl)))) pa_nil)))) dss_nil))))))))
    (dss_one (ds_ret (dz 1)))))
theorem ok_law (hm : ∃ mm, base.Ns sysModules mm) (cdv : Value) (s : Shared) (H : Hp) (E : XK) : DSs (cxOf CX0 P w K mg base N_law "law" (defScope s_law) T.a_law cdv callerA [] s H E).nox (defBody s_law) g_law :=
  have hr : Room 4 (callerA.deeper (envOfC "law" (defScope s_law) s.heap.objs.size T.a_law cdv)) := Room.deeper (k := 4) ⟨rfl, by decide, by decide⟩ _
  (dss_cons (ds_for PassesOwn.never rfl (di_rng1 (by rfl) T.z_range (da_cs (de_callB (call_minD rfl) (by rfl) T.z_min bb_min (da_cs de_int (da_cs (de_callB (call_maxD rfl) (by rfl) T.z_max bb_max (da_cs de_int (da_cs (de_bin op_fdivD (de_callB call_lenD (by rfl) T.z_len bb_len (da_cs (dv 0) da_nl)) de_int) da_nl))) da_nl))) da_nl)) (dg_name (i := 1) sc_law.nd rfl (.inl rfl)) (dss_cons (ds_asg (ps_asg (de_call (ok__law_logs T) (hr.mono (by decide)) (by rfl) T.m__law_logs T.F__law_logs.kp (bd__law_logs T) (by rfl) (da_cs (dv 0) (da_cs (dv 1) da_nl)) (len_cons (len_cons len_nil))) (dg_tup rfl (dgs_cons (dg_name (i := 2) sc_law.nd rfl (.inl rfl)) (dgs_cons (dg_name (i := 3) sc_law.nd rfl (by first | exact .inr rfl | exact .inl rfl)) dgs_nil)))))
    (dss_cons (ds_set (i := 4) sc_law.nd rfl (.inl rfl) (de_callB (call_reprU hm rfl (in65 hr)) (by rfl) T.z_repr bb_repr (da_cs (dv 2) da_nl)))
    (dss_cons (ds_set (i := 5) sc_law.nd rfl (by first | exact .inr rfl | exact .inl rfl) (de_call (ok__law_on_time T) (hr.mono (by decide)) (by rfl) T.m__law_on_time T.F__law_on_time.kp (bd__law_on_time T) (by rfl) (da_cs (dv 2) da_nl) (len_cons len_nil)))
    (dss_cons (ds_if (dt_cmp (op_neD' hr.units) (de_call (ok_events_of T) (hr.mono (by decide)) (by rfl) T.m_events_of T.F_events_of.kp (bd_events_of T) (by rfl) (da_cs (dv 2) da_nl) (len_cons len_nil)) (dv 5) (nomark _)) (dss_one (ds_ret de_bl)) dss_nil)
    (dss_cons (ds_lcO (i := 6) (ps_setLc (i := 6) (own := [("j", 11)]) (by rfl) sc_law.nd rfl rfl (sw_true rfl rfl rfl (by decide +kernel)) (di_rng1 (by rfl) T.z_range (da_cs (de_callB call_lenD (by rfl) T.z_len bb_len (da_cs (dv 5) da_nl)) da_nl)) (blkOk_by (own := [("j", 11)]) (N := N_law) (sc := defScope s_law) (by decide +kernel)) (fun _ _ _ _ _ => (dg_name (i := 11) sc_law.nd rfl (by first | exact .inl rfl | exact .inr rfl))) (fun _ _ _ _ _ => (dts_one (dt_cmp (op_eqD' hr.units) (de_bin op_modD (de_bin op_fdivD (dv 3) (de_ix ix_D (df_de (df_lst (da_cs de_int (da_cs de_int (da_cs de_int (da_cs de_int da_nl)))))) (de_bin op_modD (dv 11) de_int) (fun _ _ => rfl))) de_int) de_int (nomark _)))) (fun _ _ _ _ _ => (de_ix ix_D (dv 5) (dv 11) (fun _ _ => rfl)))))
    (dss_cons (ds_for PassesOwn.never rfl (di_seq (df_de (df_lst (da_cs (dv 5) (da_cs (df_de (df_lst da_nl)) (da_cs (dz 6) da_nl)))))) (dg_name (i := 7) sc_law.nd rfl (.inl rfl)) (dss_cons (ds_if (dt_cmp (op_neDU (in65 hr)) (de_callX0 (ok_only_these T) (hr.mono (by decide)) (by rfl) T.m_only_these T.F_only_these.kp (bd_only_these T) (da_cs (dv 2) (da_cs (dv 7) da_nl)) (len_cons (len_cons len_nil))) (de_call (ok__law_left T) (hr.mono (by decide)) (by rfl) T.m__law_left T.F__law_left.kp (bd__law_left T) (by rfl) (da_cs (dv 2) (da_cs (dv 7) (da_cs de_bl da_nl))) (len_cons (len_cons (len_cons len_nil)))) (nomark _)) (dss_one (ds_ret de_bl)) dss_nil)
    (dss_one (ds_if (dt_cmp (op_neDU (in65 hr)) (de_callX0 (ok_without_these T) (hr.mono (by decide)) (by rfl) T.m_without_these T.F_without_these.kp (bd_without_these T) (da_cs (dv 2) (da_cs (dv 7) da_nl)) (len_cons (len_cons len_nil))) (de_call (ok__law_left T) (hr.mono (by decide)) (by rfl) T.m__law_left T.F__law_left.kp (bd__law_left T) (by rfl) (da_cs (dv 2) (da_cs (dv 7) (da_cs de_bl da_nl))) (len_cons (len_cons (len_cons len_nil)))) (nomark _)) (dss_one (ds_ret de_bl)) dss_nil))))
    (dss_cons (ds_for PassesOwn.never rfl (di_seq (df_de (df_lst (da_cs (de_tup (da_cs de_str (da_cs de_int (da_cs de_int da_nl)))) (da_cs (de_tup (da_cs de_str (da_cs de_int (da_cs de_int da_nl)))) (da_cs (de_tup (da_cs de_str (da_cs de_int (da_cs de_int da_nl)))) (da_cs (de_tup (da_cs de_str (da_cs de_int (da_cs de_int da_nl)))) da_nl))))))) (dg_tup rfl (dgs_cons (dg_name (i := 8) sc_law.nd rfl (.inl rfl)) (dgs_cons (dg_name (i := 9) sc_law.nd rfl (.inl rfl)) (dgs_cons (dg_name (i := 10) sc_law.nd rfl (.inl rfl)) dgs_nil)))) (dss_one (ds_if (dt_not (dt_tru (de_call (ok__law_refused T) (hr.mono (by decide)) (by rfl) T.m__law_refused T.F__law_refused.kp (bd__law_refused T) (by rfl) (da_cs (dv 2) (da_cs (de_tup (da_cs (dv 8) (da_cs (dv 9) (da_cs (dv 10) da_nl)))) da_nl)) (len_cons (len_cons len_nil))))) (dss_one (ds_ret de_bl)) dss_nil)))
    (dss_cons (ds_for PassesOwn.never rfl (di_rng1 (by rfl) T.z_range (da_cs (de_callB call_lenD (by rfl) T.z_len bb_len (da_cs (de_ix ix_D (de_ix (ix_U hr.units) (dv 2) de_str (fun _ _ => rfl)) de_int (fun _ _ => rfl)) da_nl)) da_nl)) (dg_name (i := 10) sc_law.nd rfl (.inl rfl)) (dss_one (ds_if (dt_bool (dt_and (dt_cmp (op_eqD' hr.units) (de_ix ix_D (de_ix ix_D (de_ix ix_D (de_ix (ix_U hr.units) (dv 2) de_str (fun _ _ => rfl)) de_int (fun _ _ => rfl)) (dv 10) (fun _ _ => rfl)) de_int (fun _ _ => rfl)) de_str (nomark _)) (dt_and1 (dt_not (dt_tru (de_call (ok__law_refused T) (hr.mono (by decide)) (by rfl) T.m__law_refused T.F__law_refused.kp (bd__law_refused T) (by rfl) (da_cs (dv 2) (da_cs (de_tup (da_cs de_str (da_cs de_int (da_cs (dv 10) da_nl)))) da_nl)) (len_cons (len_cons len_nil)))))))) (dss_one (ds_ret de_bl)) dss_nil)))
    (dss_one (ds_if (dt_cmp (op_neD' hr.units) (de_callB (call_reprU hm rfl (in65 hr)) (by rfl) T.z_repr bb_repr (da_cs (dv 2) da_nl)) (dv 4) (nomark _)) (dss_one (ds_ret de_bl)) dss_nil)))))))))))
    (dss_one (ds_ret de_bl)))
end
end Lw
set_option maxHeartbeats 4000000
namespace Lw
open PySem Dn Dm DnSo
local macro_rules | `(tactic| simp! [$xs,*]) => `(tactic| simp (maxSteps := 4000000) only [backE, wipeE, wo_some, wo_none, wm_c, wm_var, wm_frz, wm_bin, wm_un, wm_tst, wm_tru, wm_truB, wm_chain, wm_and, wm_or, wm_not, wm_andV, wm_orV, wm_notV, wm_ifE, wm_nil, wm_cons, wm_app, wm_noP, wm_part, wm_sl, wm_pk, wm_io, wm_ix, wm_inB, wm_true, wm_seq, wm_rng1, wm_rng2,
    then_nx, then_ret, then_rof, then_brk, then_cnt, ws_next, ws_brk, ws_cnt, ws_seq, ws_if, ws_ret, ws_rof, ws_drop, ws_set, ws_own, ws_asg, wo_TN, wo_TNil, wo_TCons, wo_TTup, ws_ap, ws_setIx, ws_for, for_nil, turn_nx, turn_cnt, turn_brk, turn_ret, turn_rof, wm_lc, end_ret, end_nx, end_rof, end_io, ownOf_own, valOf_val, frz_val, frz_own, frz_ownD, ixO_l, ixO_d, cOwn_own, peek_val, peek_own, peek_ownD, by_val, by_own, canSet_none, canSet_val, canSet_own, lstOf_list,
    List.getElem?_cons_zero, List.getElem?_cons_succ, List.set_cons_zero, List.set_cons_succ, List.length_cons, List.length_nil, wo_ite, wo_bind, ↓reduceIte, and_true, true_and, and_self, Bool.false_eq_true, Bool.not_true, Bool.not_false, decide_eq_true_eq, decide_true, decide_false, oneInt_int, twoInts_int,
    add_ii, add_ll, add_tt, add_ss, sub_ii, mul_ii, mulS_ii, mod_ii, fdiv_ii, neg_i, le_ii, gt_ii, ge_ii, eqT_ii, eqT_ss, eqT_bb, eqT_nn, ltT_ii, ltT_ss, wo_eqD, wo_neD, wo_ltD, wo_inD, wo_ninD, is_n, isnt_n, is_bb, isnt_bb, isN, bOf_b, iOf_i, tru_b, tru_n, tru_i, tru_l, tru_t, seq_l, seq_t, tup_l, tup_t, lst_l, lst_t, len_l, len_t, int_i, int_b, abs_i, max_ii, min_ii, ix_li, ix_ti, cut_l, cut_t, flat_i, flat_b, flat_s, ix0, ix1, ix2, mkTup, mkLst,
    add2_ll, ws_par3, three_c, ws_grp, empty_own, lOwnD_own, wm_lcW, wm_getD, wm_ind, ix3, ix4, ix_m2, ix_m1, ix_p2, ix_p1, wm_newD, ws_setK, wm_get, wm_ixK, wm_sortN, ws_ext, dOwn_own, lOwn_own, lsD_list, step_nx, step_cnt, step_brk, step_ret, step_rof, wm_reve, rev_l, rev_t, wm_opBL, repr_l, sort_l, sum_l, wm_enum, enum_l, enum_t, enumL_nil, wm_dic, wm_kvn, wm_kvc, seq_s, mulT_si, len_s, ord_c, str_i, ty_d, k_lb, k_li, k_ls, k_tb, k_ti, k_ts, k_db, k_di, k_ds, k_lt, k_tl,
    isi_1, tyOk_n, tyOk_b, tyOk_i, tyOk_s, tyOk_l, tyOk_t, ty_n, ty_b, ty_i, ty_s, ty_l, ty_t, k_nb, k_bb, k_ib, k_sb, k_ni, k_bi, k_ii, k_si, k_ns, k_bs, k_is, k_ss, k_ll, k_tt,
    Int.reduceNeg, Int.reducePow, Int.reduceLT, Int.reduceLE, Int.reduceAdd, Int.reduceSub, Int.reduceMul, Int.reduceToNat, Nat.reduceAdd, Nat.reduceLeDiff, Nat.reduceEqDiff, Int.reduceEq, reduceCtorEq, ws_grpL, empty_ownL, wo_TLst, wg_P, wg_end, wg_then, theng_nx, wg_yield, wm_callG, wo_runG, List.nil_append, wm_fmt, fmt_s, fmt_i, js_s, wm_js0, wm_js, wm_sortU, wm_fT, fT_val, fT_own, ws_newT, txtC_own, ws_newTD, ws_fill, fill_nil, retn_ret, retn_nx, wx_tryN, $xs,*])
theorem sp_digit (n m : Int) (h : 0 < m ∧ m < 1073741824) : f__law_digit (.list [.int n]) [.int m] = some (.int (n % m), .list [.int (n / m)]) := by
  rw [← wo_eq]
  unfold f__law_digit
  rw [wo_runIO]
  show Ws g__law_digit [some (.own true (.list [.int n])), some (.val (.int m)), none] _
  unfold g__law_digit
  have h' : 0 < m ∧ m < 18446744073709551616 := ⟨h.1, by omega⟩
  simp! []
  simp only [wo_some, h', h'.1, ↓reduceIte, and_self]
  simp [ixS, wo_some]
theorem wo_start {c k : Int} {Q : D → Prop} (q : ∀ n : Int, Q (.list [.int n])) : Wo (f__law_start [.int c, .int k]) Q := by
  unfold f__law_start
  rw [wo_runF]
  show Ws g__law_start [some (.val (.int c)), some (.val (.int k)), none, none, none, none] _
  unfold g__law_start
  simp! [sp_digit]
  split
  · split
    · rw [if_pos (by decide)]
      have e4 : rngL 0 4 = [.int 0, .int 1, .int 2, .int 3] := rfl
      rw [e4]
      refine ws_forall (fun p ρ => ∃ (m num : Int) (o : Option Cell), canSet (some o) = some () ∧ 0 ≤ m ∧ m < 2 ^ 89 ∧ 0 ≤ num ∧ num < 2 ^ (90 * p.length + 1) ∧ ρ = [some (.val (.int c)), some (.val (.int k)), some (.val (.int 618970019642690137449562111)), some (.val (.int m)), some (.val (.int num)), o]) ⟨_, 0, none, rfl, Int.emod_nonneg _ (by decide), Int.lt_of_lt_of_le (Int.emod_lt_of_pos _ (by decide)) (by decide), by decide, by decide, rfl⟩ ?_ ?_
      · rintro p d r ρ e ⟨m, num, o, ho, hm0, hm1, hn0, hn1, rfl⟩
        have hp : p.length ≤ 3 := by
          have := congrArg List.length e
          simp at this
          omega
        obtain ⟨t, rfl⟩ : ∃ t : Int, d = .int t := by
          have hd : d ∈ ([.int 0, .int 1, .int 2, .int 3] : List D) := by rw [e]; simp
          simp only [List.mem_cons, List.not_mem_nil, or_false] at hd
          rcases hd with rfl | rfl | rfl | rfl <;> exact ⟨_, rfl⟩
        have hmn := nab hm0 hm1
        have hnn := nab hn0 hn1
        have g1 : m.natAbs.log2 + m.natAbs.log2 < 1000000 := log_ok _ _ hmn hmn (by omega)
        have g2 : (7 : Int).natAbs.log2 + m.natAbs.log2 < 1000000 := log_ok 4 _ (by decide) hmn (by omega)
        have g3 : num.natAbs.log2 + (618970019642690137449562111 : Int).natAbs.log2 < 1000000 := log_ok _ 90 hnn (by decide) (by omega)
        simp! [g1, g2, g3, ho]
        have hr0 := Int.emod_nonneg (m * m + 7 * m + k + t) (show (618970019642690137449562111 : Int) ≠ 0 by decide)
        have hr1 := Int.emod_lt_of_pos (m * m + 7 * m + k + t) (show (0 : Int) < 618970019642690137449562111 by decide)
        generalize (m * m + 7 * m + k + t) % 618970019642690137449562111 = m' at hr0 hr1 ⊢
        refine ⟨.inl trivial, m', num * 618970019642690137449562111 + m', _, rfl, hr0, Int.lt_of_lt_of_le hr1 (by decide), ?_, ?_, rfl⟩
        · have := Int.mul_nonneg hn0 (show (0 : Int) ≤ 618970019642690137449562111 by decide)
          omega
        · rw [List.length_append]
          show _ < (2 : Int) ^ (90 * (p.length + 1) + 1)
          have h2 : (2 : Int) ^ (90 * (p.length + 1) + 1) = 2 ^ (90 * p.length + 1) * 2 ^ 90 := by rw [← Int.pow_add]; congr 1
          rw [h2]
          have h3 : num * 618970019642690137449562111 ≤ (2 ^ (90 * p.length + 1) - 1) * 618970019642690137449562111 := Int.mul_le_mul_of_nonneg_right (by omega) (by decide)
          have h4 : (1 : Int) ≤ 2 ^ (90 * p.length + 1) := by omega
          generalize (2 : Int) ^ (90 * p.length + 1) = b at h3 h4 ⊢
          have h5 : (2 : Int) ^ 90 = 1237940039285380274899124224 := by decide
          rw [h5]
          omega
      · rintro ρ' ⟨m, num, o, _, _, _, _, _, rfl⟩
        simp! []
        exact q _
    · exact q _
  · exact q _
theorem wo_cell {ns : List Int} {k : Int} {Q : D → Prop} (hk : 0 ≤ k) (q : ∀ n : Int, Q (.int n)) : Wo (f__law_cell [.list (ns.map PyData.int), .int k]) Q := by
  unfold f__law_cell
  rw [wo_runV]
  show Ws g__law_cell [some (.val (.list (ns.map PyData.int))), some (.val (.int k))] _
  unfold g__law_cell
  simp! []
  split
  · rename_i h
    refine wo_ix hk (by simpa using h) fun x hx => ?_
    obtain ⟨n, _, rfl⟩ := List.mem_map.mp hx
    exact q n
  · exact q _
inductive Ent where
  | mk (t : Int)
  | ev (t : Int) (r : List D)
def entD : Ent → D
  | .mk t => .tuple [.str "mark", .int t]
  | .ev t r => .tuple [.str "event", .int t, .tuple r]
def isMk : Ent → Bool
  | .mk _ => true
  | .ev _ _ => false
def tmE : Ent → Int
  | .mk t => t
  | .ev t _ => t
/-- mark, number, what is late, what is on time -/
abbrev LS := Int × Nat × List Nat × List Mv
def stp (s : LS) : Ent → LS
  | .mk t => (if t > s.1 then t else s.1, s.2.1 + 1, s.2.2.1, s.2.2.2)
  | .ev t r => if t ≤ s.1 then (s.1, s.2.1 + 1, s.2.2.1 ++ [s.2.1], s.2.2.2) else (s.1, s.2.1 + 1, s.2.2.1, s.2.2.2 ++ [((t, r), 1)])
def rd (es : List Ent) : LS := es.foldl stp (-1, 0, [], [])
def mrk (es : List Ent) : Int := (rd es).1
def lat (es : List Ent) : List Nat := (rd es).2.2.1
def frs (es : List Ent) : List Mv := (rd es).2.2.2
theorem rd_snoc (es : List Ent) (e : Ent) : rd (es ++ [e]) = stp (rd es) e := by
  unfold rd
  rw [List.foldl_append]
  rfl
theorem fold_rd : ∀ (es : List Ent) (s : LS), (es.foldl stp s).2.1 = s.2.1 + es.length ∧ s.1 ≤ (es.foldl stp s).1 ∧ (∃ l, (es.foldl stp s).2.2.1 = s.2.2.1 ++ l ∧ ∀ j ∈ l, s.2.1 ≤ j ∧ j < s.2.1 + es.length) ∧ ∃ f, (es.foldl stp s).2.2.2 = s.2.2.2 ++ f ∧ ∀ m ∈ f, s.1 < m.1.1 ∧ m.2 = 1 ∧ ∃ e ∈ es, e = .ev m.1.1 m.1.2
  | [], s => ⟨rfl, Int.le_refl _, ⟨[], by simp, by simp⟩, [], by simp, by simp⟩
  | e :: es, s => by
    obtain ⟨i1, i2, ⟨l, i3, i4⟩, f, i5, i6⟩ := fold_rd es (stp s e)
    have h1 : (stp s e).2.1 = s.2.1 + 1 := by
      cases e with
      | mk t => rfl
      | ev t r =>
        unfold stp
        dsimp only
        split <;> rfl
    have h2 : s.1 ≤ (stp s e).1 := by
      cases e with
      | mk t =>
        show s.1 ≤ (if t > s.1 then t else s.1)
        split <;> omega
      | ev t r =>
        unfold stp
        dsimp only
        split <;> exact Int.le_refl _
    have h3 : ∃ l, (stp s e).2.2.1 = s.2.2.1 ++ l ∧ ∀ j ∈ l, j = s.2.1 := by
      cases e with
      | mk t => exact ⟨[], by simp [stp], by simp⟩
      | ev t r =>
        unfold stp
        dsimp only
        split
        · exact ⟨[s.2.1], rfl, by simp⟩
        · exact ⟨[], by simp, by simp⟩
    have h4 : ∃ f, (stp s e).2.2.2 = s.2.2.2 ++ f ∧ ∀ m ∈ f, s.1 < m.1.1 ∧ m.2 = 1 ∧ e = .ev m.1.1 m.1.2 := by
      cases e with
      | mk t => exact ⟨[], by simp [stp], by simp⟩
      | ev t r =>
        unfold stp
        dsimp only
        split
        · exact ⟨[], by simp, by simp⟩
        · rename_i hn
          refine ⟨[((t, r), 1)], rfl, fun m hm => ?_⟩
          rw [List.mem_singleton.mp hm]
          exact ⟨by show s.1 < t; omega, rfl, rfl⟩
    obtain ⟨l0, h5, h6⟩ := h3
    obtain ⟨f0, h7, h8⟩ := h4
    rw [List.foldl_cons, List.length_cons]
    refine ⟨by omega, Int.le_trans h2 i2, ⟨l0 ++ l, by rw [i3, h5, List.append_assoc], fun j hj => ?_⟩, f0 ++ f, by rw [i5, h7, List.append_assoc], fun m hm => ?_⟩
    · rcases List.mem_append.mp hj with h | h
      · have := h6 j h
        omega
      · have := i4 j h
        omega
    · rcases List.mem_append.mp hm with h | h
      · obtain ⟨a, b, c⟩ := h8 m h
        exact ⟨a, b, e, List.mem_cons_self, c⟩
      · obtain ⟨a, b, e', he, c⟩ := i6 m h
        exact ⟨by omega, b, e', List.mem_cons_of_mem _ he, c⟩
theorem rd_count (es : List Ent) : (rd es).2.1 = es.length := by
  have := (fold_rd es (-1, 0, [], [])).1
  unfold rd
  rw [this]
  exact Nat.zero_add _
theorem lat_lt (es : List Ent) : ∀ j ∈ lat es, j < es.length := by
  obtain ⟨l, h1, h2⟩ := (fold_rd es (-1, 0, [], [])).2.2.1
  intro j hj
  have e : lat es = l := h1
  rw [e] at hj
  have := (h2 j hj).2
  simpa using this
theorem rd_app (as bs : List Ent) : rd (as ++ bs) = bs.foldl stp (rd as) := List.foldl_append
theorem lat_app (as bs : List Ent) : ∃ l, lat (as ++ bs) = lat as ++ l ∧ ∀ j ∈ l, as.length ≤ j := by
  unfold lat
  rw [rd_app]
  obtain ⟨l, h1, h2⟩ := (fold_rd bs (rd as)).2.2.1
  refine ⟨l, h1, fun j hj => ?_⟩
  rw [← rd_count as]
  exact (h2 j hj).1
theorem lat_len (es : List Ent) : (lat es).length ≤ es.length := by
  have go : ∀ (es : List Ent) (s : LS), (es.foldl stp s).2.2.1.length ≤ s.2.2.1.length + es.length ∧ (es.foldl stp s).2.2.2.length ≤ s.2.2.2.length + es.length := by
    intro es
    induction es with
    | nil => exact fun s => ⟨Nat.le_refl _, Nat.le_refl _⟩
    | cons e es ih =>
      intro s
      obtain ⟨i1, i2⟩ := ih (stp s e)
      have : (stp s e).2.2.1.length ≤ s.2.2.1.length + 1 ∧ (stp s e).2.2.2.length ≤ s.2.2.2.length + 1 := by
        cases e with
        | mk t => exact ⟨Nat.le_succ _, Nat.le_succ _⟩
        | ev t r =>
          unfold stp
          dsimp only
          split
          · exact ⟨by simp, Nat.le_succ _⟩
          · exact ⟨Nat.le_succ _, by simp⟩
      rw [List.foldl_cons, List.length_cons]
      omega
  have := (go es (-1, 0, [], [])).1
  simpa [lat, rd] using this
/-- whether the entry behind q is late -/
theorem lat_at {es q r : List Ent} {x : Ent} (e : es = q ++ x :: r) : (q.length ∈ lat es) ↔ (isMk x = false ∧ tmE x ≤ mrk q) := by
  have e2 : es = (q ++ [x]) ++ r := by rw [e]; simp
  obtain ⟨l, h1, h2⟩ := lat_app (q ++ [x]) r
  rw [e2, h1, List.mem_append]
  have h3 : q.length ∉ l := fun h => by
    have := h2 _ h
    rw [List.length_append, List.length_singleton] at this
    omega
  have h4 : q.length ∉ lat q := fun h => absurd (lat_lt q _ h) (by omega)
  have h5 : lat (q ++ [x]) = (stp (rd q) x).2.2.1 := by unfold lat; rw [rd_snoc]
  rw [h5]
  cases x with
  | mk t =>
    constructor
    · rintro (h | h)
      · exact absurd h h4
      · exact absurd h h3
    · rintro ⟨h, _⟩
      cases h
  | ev t r' =>
    unfold stp
    dsimp only
    split
    · rename_i ht
      refine ⟨fun _ => ⟨rfl, ht⟩, fun _ => .inl ?_⟩
      rw [rd_count]
      exact List.mem_append_right _ List.mem_cons_self
    · rename_i ht
      constructor
      · rintro (h | h)
        · exact absurd h h4
        · exact absurd h h3
      · rintro ⟨_, h⟩
        exact absurd h ht
theorem stp_late {p : List Ent} {t : Int} {r : List D} (h : t ≤ mrk p) : stp (rd p) (.ev t r) = (mrk p, p.length + 1, lat p ++ [p.length], frs p) := by
  have h' : t ≤ (rd p).1 := h
  unfold stp
  dsimp only
  rw [if_pos h', rd_count]
  rfl
theorem stp_time {p : List Ent} {t : Int} {r : List D} (h : ¬ t ≤ mrk p) : stp (rd p) (.ev t r) = (mrk p, p.length + 1, lat p, frs p ++ [((t, r), 1)]) := by
  have h' : ¬ t ≤ (rd p).1 := h
  unfold stp
  dsimp only
  rw [if_neg h', rd_count]
  rfl
theorem entD_ev (t : Int) (r : List D) : entD (.ev t r) = .tuple [.str "event", .int t, .tuple r] := rfl
theorem entD_mk (t : Int) : entD (.mk t) = .tuple [.str "mark", .int t] := rfl
theorem em : decide ((Str.ofString "event") = Str.ofString "mark") = false := decide_eq_false (fun z => (str_ne (by decide)).mp z)
theorem me : decide ((Str.ofString "mark") = Str.ofString "event") = false := decide_eq_false (fun z => (str_ne (by decide)).mp z)
theorem sp_late {es : List Ent} (hl : es.length ≤ 1000000) : f_late_indexes [.list (es.map entD)] = some (.list ((lat es).map fun i : Nat => .int i)) := by
  rw [← wo_eq]
  unfold f_late_indexes
  rw [wo_runV]
  show Ws g_late_indexes [some (.val (.list (es.map entD))), none, none, none, none] _
  unfold g_late_indexes
  simp! []
  refine ws_forEn entD (fun p ρ => ∃ o3 o4 : Option Cell, (canSet (some o3) = some () ∧ canSet (some o4) = some ()) ∧ ρ = [some (.val (.list (es.map entD))), some (.own false (.list ((lat p).map fun i : Nat => .int i))), some (.val (.int (mrk p))), o3, o4]) ⟨none, none, ⟨rfl, rfl⟩, rfl⟩ ?_ ?_
  · rintro p x s ρ e ⟨o3, o4, ⟨h3, h4⟩, rfl⟩
    have hm : mrk (p ++ [x]) = (stp (rd p) x).1 := by unfold mrk; rw [rd_snoc]
    have hlt : lat (p ++ [x]) = (stp (rd p) x).2.2.1 := by unfold lat; rw [rd_snoc]
    have hpl := congrArg List.length e
    rw [List.length_append, List.length_cons] at hpl
    have hll := lat_len p
    cases x with
    | mk t =>
      simp! [entD_mk, h3, h4]
      exact ⟨_, _, ⟨rfl, rfl⟩, by rw [hm, hlt]; rfl⟩
    | ev t r =>
      by_cases ht : t ≤ mrk p
      · have es : stp (rd p) (.ev t r) = (mrk p, p.length + 1, lat p ++ [p.length], frs p) := by
          exact stp_late ht
        simp! [entD_ev, h3, h4, em, ht, List.length_map]
        rw [hm, hlt, es, List.map_append]
        exact ⟨by omega, _, _, ⟨rfl, rfl⟩, rfl⟩
      · have es : stp (rd p) (.ev t r) = (mrk p, p.length + 1, lat p, frs p ++ [((t, r), 1)]) := by
          exact stp_time ht
        simp! [entD_ev, h3, h4, em, ht]
        exact ⟨_, _, ⟨rfl, rfl⟩, by rw [hm, hlt, es]⟩
  · rintro ρ' ⟨o3, o4, ⟨h3, h4⟩, rfl⟩
    simp! []
theorem shaped_nats (ns : List Nat) : SeqAt.shaped (.list (ns.map fun i : Nat => PyData.int i)) = true := by
  have : ∀ ns : List Nat, PyData.canLayAll0 (ns.map fun i : Nat => PyData.int i) = true ∧ PyData.depthAll (ns.map fun i : Nat => PyData.int i) = 0 := by
    intro ns
    induction ns with
    | nil => exact ⟨rfl, rfl⟩
    | cons x xs ih => exact ⟨by rw [List.map_cons, PyData.canLayAll0, ih.1]; rfl, by rw [List.map_cons, PyData.depthAll, ih.2]; rfl⟩
  unfold SeqAt.shaped
  rw [PyData.canLay0, PyData.depth, (this ns).1, (this ns).2]
  decide
theorem in_nats (i : Nat) (ns : List Nat) : inT (.int i) (.list (ns.map fun i : Nat => .int i)) = some (decide (i ∈ ns)) := by
  show (if SeqAt.shaped (.int i) = true ∧ SeqAt.shaped (.list (ns.map fun i : Nat => PyData.int i)) = true then some ((ns.map fun i : Nat => PyData.int i).any fun z => PyData.eqv z (.int i)) else none) = _
  rw [if_pos ⟨by simp [SeqAt.shaped, PyData.canLay0, PyData.depth], shaped_nats ns⟩]
  congr 1
  induction ns with
  | nil => rfl
  | cons j ns ih =>
    rw [List.map_cons, List.any_cons, ih]
    by_cases h : i = j
    · simp [h, PyData.eqv]
    · have h' : ¬ (j : Int) = i := by omega
      simp [h, h', PyData.eqv]
end Lw
set_option maxHeartbeats 4000000
namespace Lw
open PySem Dn Dm DnSo
local macro_rules | `(tactic| simp! [$xs,*]) => `(tactic| simp (maxSteps := 4000000) only [backE, wipeE, wo_some, wo_none, wm_c, wm_var, wm_frz, wm_bin, wm_un, wm_tst, wm_tru, wm_truB, wm_chain, wm_and, wm_or, wm_not, wm_andV, wm_orV, wm_notV, wm_ifE, wm_nil, wm_cons, wm_app, wm_noP, wm_part, wm_sl, wm_pk, wm_io, wm_ix, wm_inB, wm_true, wm_seq, wm_rng1, wm_rng2,
    then_nx, then_ret, then_rof, then_brk, then_cnt, ws_next, ws_brk, ws_cnt, ws_seq, ws_if, ws_ret, ws_rof, ws_drop, ws_set, ws_own, ws_asg, wo_TN, wo_TNil, wo_TCons, wo_TTup, ws_ap, ws_setIx, ws_for, for_nil, turn_nx, turn_cnt, turn_brk, turn_ret, turn_rof, wm_lc, end_ret, end_nx, end_rof, end_io, ownOf_own, valOf_val, frz_val, frz_own, frz_ownD, ixO_l, ixO_d, cOwn_own, peek_val, peek_own, peek_ownD, by_val, by_own, canSet_none, canSet_val, canSet_own, lstOf_list,
    List.getElem?_cons_zero, List.getElem?_cons_succ, List.set_cons_zero, List.set_cons_succ, List.length_cons, List.length_nil, wo_ite, wo_bind, ↓reduceIte, and_true, true_and, and_self, Bool.false_eq_true, Bool.not_true, Bool.not_false, decide_eq_true_eq, decide_true, decide_false, oneInt_int, twoInts_int,
    add_ii, add_ll, add_tt, add_ss, sub_ii, mul_ii, mulS_ii, mod_ii, fdiv_ii, neg_i, le_ii, gt_ii, ge_ii, eqT_ii, eqT_ss, eqT_bb, eqT_nn, ltT_ii, ltT_ss, wo_eqD, wo_neD, wo_ltD, wo_inD, wo_ninD, is_n, isnt_n, is_bb, isnt_bb, isN, bOf_b, iOf_i, tru_b, tru_n, tru_i, tru_l, tru_t, seq_l, seq_t, tup_l, tup_t, lst_l, lst_t, len_l, len_t, int_i, int_b, abs_i, max_ii, min_ii, ix_li, ix_ti, cut_l, cut_t, flat_i, flat_b, flat_s, ix0, ix1, ix2, mkTup, mkLst,
    add2_ll, ws_par3, three_c, ws_grp, empty_own, lOwnD_own, wm_lcW, wm_getD, wm_ind, ix3, ix4, ix_m2, ix_m1, ix_p2, ix_p1, wm_newD, ws_setK, wm_get, wm_ixK, wm_sortN, ws_ext, dOwn_own, lOwn_own, lsD_list, step_nx, step_cnt, step_brk, step_ret, step_rof, wm_reve, rev_l, rev_t, wm_opBL, repr_l, sort_l, sum_l, wm_enum, enum_l, enum_t, enumL_nil, wm_dic, wm_kvn, wm_kvc, seq_s, mulT_si, len_s, ord_c, str_i, ty_d, k_lb, k_li, k_ls, k_tb, k_ti, k_ts, k_db, k_di, k_ds, k_lt, k_tl,
    isi_1, tyOk_n, tyOk_b, tyOk_i, tyOk_s, tyOk_l, tyOk_t, ty_n, ty_b, ty_i, ty_s, ty_l, ty_t, k_nb, k_bb, k_ib, k_sb, k_ni, k_bi, k_ii, k_si, k_ns, k_bs, k_is, k_ss, k_ll, k_tt,
    Int.reduceNeg, Int.reducePow, Int.reduceLT, Int.reduceLE, Int.reduceAdd, Int.reduceSub, Int.reduceMul, Int.reduceToNat, Nat.reduceAdd, Nat.reduceLeDiff, Nat.reduceEqDiff, Int.reduceEq, reduceCtorEq, ws_grpL, empty_ownL, wo_TLst, wg_P, wg_end, wg_then, theng_nx, wg_yield, wm_callG, wo_runG, List.nil_append, wx_okD, wx_okL, wx_okB, wx_okS, wx_cons, wx_call, wx_app, wx_bin, wx_tst, wx_not, wx_ite, thenx_nx, thenx_ret, thenx_rof, thenx_brk, thenx_cnt, wx_seq, wx_if, wx_ret, wx_drop, wx_set, wx_apd, ownL_own, wx_raise, strOf_s, wx_for, ws_noX, wx_tryA, wx_try, retq_ret, either_l, either_r, endq_nx, endq_ret, hL_hd, gL_hd, wo_runX, wx_own, wl_nil, wl_cons, wx_lc, wm_keys, wm_callIOF, wm_fmt, fmt_s, fmt_i, js_s, wm_js0, wm_js, wm_sortU, wm_fT, fT_val, fT_own, ws_newT, txtC_own, ws_newTD, ws_fill, fill_nil, retn_ret, retn_nx, wx_tryN, $xs,*])
theorem str_iff {a b : String} : (Str.ofString a = Str.ofString b) = (a = b) := propext ⟨ofString_inj, fun h => by rw [h]⟩
abbrev Pl := Str × Nat × Nat
def plD (p : Pl) : D := .tuple [.str p.1, .int p.2.1, .int p.2.2]
def lgs (A B C : List Ent) : D := .dict [(.str "s", .list [.list (A.map entD), .list (B.map entD)]), (.str "t", .list [.list (C.map entD)])]
def onB (es : List Ent) (i : Nat) : Bool := match es[i]? with
  | some (.ev t _) => decide (¬ t ≤ mrk (es.take i))
  | _ => false
def ont (es : List Ent) : List Nat := (List.range es.length).filter (onB es)
def onE (q : List Ent) : Ent → Bool
  | .mk _ => false
  | .ev t _ => decide (¬ t ≤ mrk q)
theorem ont_snoc (q : List Ent) (x : Ent) : ont (q ++ [x]) = ont q ++ (if onE q x = true then [q.length] else []) := by
  unfold ont
  rw [List.length_append, List.length_singleton, List.range_succ, List.filter_append]
  congr 1
  · refine List.filter_congr fun i hi => ?_
    have hi' : i < q.length := List.mem_range.mp hi
    unfold onB
    rw [List.getElem?_append_left hi', List.take_append_of_le_length (Nat.le_of_lt hi')]
  · have e : onB (q ++ [x]) q.length = onE q x := by
      unfold onB onE
      rw [List.getElem?_append_right (Nat.le_refl _), Nat.sub_self, List.take_append_of_le_length (Nat.le_refl _), List.take_length]
      cases x <;> rfl
    rw [List.filter_cons, e, List.filter_nil]
theorem ont_len (es : List Ent) : (ont es).length ≤ es.length := by
  have := List.length_filter_le (onB es) (List.range es.length)
  rw [List.length_range] at this
  exact this
theorem ont_has {es : List Ent} {i : Nat} (h : i ∈ ont es) : ∃ t r, es[i]? = some (.ev t r) := by
  have h2 := (List.mem_filter.mp h).2
  unfold onB at h2
  split at h2
  · exact ⟨_, _, by assumption⟩
  · cases h2
def pls (x : Str) (n : Nat) (es : List Ent) : List Pl := (ont es).map fun i => (x, n, i)
theorem pls_snoc (x : Str) (n : Nat) (q : List Ent) (e : Ent) : pls x n (q ++ [e]) = pls x n q ++ (if onE q e = true then [(x, n, q.length)] else []) := by
  unfold pls
  rw [ont_snoc, List.map_append]
  split <;> rfl
theorem pls_len (x : Str) (n : Nat) (es : List Ent) : (pls x n es).length ≤ es.length := by
  unfold pls
  rw [List.length_map]
  exact ont_len es
def plcs (A B C : List Ent) : List Pl := pls "s" 0 A ++ pls "s" 1 B ++ pls "t" 0 C
def onBody : Sd := (sSeq (sSet 4 (gUn negD (gC (.int 1))))
  (sFor (gRng1 (gCons (gApp lenF (gCons (gBin ixD (gBin ixU (gVar 0) (gVar 2)) (gVar 3)) gNil)) gNil)) (gTN 5)
  (sSeq (sSet 6 (gBin ixD (gBin ixD (gBin ixU (gVar 0) (gVar 2)) (gVar 3)) (gVar 5)))
  (sIf (gTst (gBin eqD (gBin ixD (gVar 6) (gC (.int 0))) (gC (.str "mark")))) (sSet 4 (gApp maxF (gCons (gVar 4) (gCons (gBin ixD (gVar 6) (gC (.int 1))) gNil)))) (sIf (gTst (gBin gtD (gBin ixD (gVar 6) (gC (.int 1))) (gVar 4))) (sApp 1 (gApp mkTup (gCons (gVar 2) (gCons (gVar 3) (gCons (gVar 5) gNil))))) sNext)))))
theorem on_part {LD : D} {ps : List D} {x : Str} {n : Nat} {es : List Ent} {acc : List D} {o4 o5 o6 : Option Cell} {R : Fl → Dn.Env → Prop} (h1 : ixU LD (.str x) = some (.list ps)) (h2 : ixA ps (n : Int) = some (.list (es.map entD))) (hes : es.length ≤ 1000) (hacc : acc.length ≤ 1000) (c4 : canSet (some o4) = some ()) (c5 : canSet (some o5) = some ()) (c6 : canSet (some o6) = some ())
    (k : ∀ o4 o5 o6 : Option Cell, canSet (some o4) = some () → canSet (some o5) = some () → canSet (some o6) = some () → R .nx [some (.val LD), some (.own false (.list (acc ++ (pls x n es).map plD))), some (.val (.str x)), some (.val (.int n)), o4, o5, o6]) :
    Ws onBody [some (.val LD), some (.own false (.list acc)), some (.val (.str x)), some (.val (.int n)), o4, o5, o6] R := by
  unfold onBody
  simp! [c4, h1, h2, List.length_map]
  rw [if_pos (small_nat (by omega)), Int.toNat_natCast, rng_map]
  refine ws_forA (fun i : Nat => PyData.int i) (fun p ρ => ∃ o5 o6 : Option Cell, (canSet (some o5) = some () ∧ canSet (some o6) = some ()) ∧ ρ = [some (.val LD), some (.own false (.list (acc ++ (pls x n (es.take p.length)).map plD))), some (.val (.str x)), some (.val (.int n)), some (.val (.int (mrk (es.take p.length)))), o5, o6]) ⟨o5, o6, ⟨c5, c6⟩, by simp [pls, ont, mrk, rd]⟩ ?_ ?_
  · rintro p i s ρ e ⟨o5, o6, ⟨h5, h6⟩, rfl⟩
    obtain ⟨e1, e2⟩ := rng_split e
    subst e1
    have e3 : es[p.length]? = some es[p.length] := List.getElem?_eq_getElem e2
    have e4 : ixA (es.map entD) (p.length : Int) = some (entD es[p.length]) := by rw [ixA_nat, List.getElem?_map, e3]; rfl
    have e5 : es.take (p.length + 1) = es.take p.length ++ [es[p.length]] := by rw [List.take_succ_eq_append_getElem e2]
    have e6 : (p ++ [p.length]).length = p.length + 1 := by simp
    rw [e6, e5]
    have hq : (es.take p.length).length = p.length := by rw [List.length_take]; omega
    generalize es[p.length] = z at e4 ⊢
    generalize es.take p.length = q at hq ⊢
    have hll := pls_len x n q
    have hm : mrk (q ++ [z]) = (stp (rd q) z).1 := by unfold mrk; rw [rd_snoc]
    have hlen : (acc ++ (pls x n q).map plD).length < 16777216 := by rw [List.length_append, List.length_map]; omega
    rw [pls_snoc, hm]
    cases z with
    | mk t =>
      rw [entD_mk] at e4
      simp! [h5, h6, h1, h2, e4]
      have eo : onE q (.mk t) = false := rfl
      rw [eo, if_neg Bool.false_ne_true, List.append_nil]
      refine ⟨_, _, ⟨?_, ?_⟩, rfl⟩ <;> rfl
    | ev t r =>
      rw [entD_ev] at e4
      by_cases ht : t ≤ mrk q
      · have hn : ¬ (mrk q < t) := by omega
        simp! [h5, h6, h1, h2, e4, em, hn]
        have eo : onE q (.ev t r) = false := by simp [onE, ht]
        rw [eo, if_neg Bool.false_ne_true, List.append_nil, stp_late ht]
        refine ⟨_, _, ⟨?_, ?_⟩, rfl⟩ <;> rfl
      · have hn : mrk q < t := by omega
        simp! [h5, h6, h1, h2, e4, em, hn]
        have eo : onE q (.ev t r) = true := by simp [onE, ht]
        rw [eo, if_pos rfl, stp_time ht, List.map_append, ← List.append_assoc, hq]
        refine ⟨hlen, _, _, ⟨?_, ?_⟩, rfl⟩ <;> rfl
  · rintro ρ' ⟨o5, o6, ⟨h5, h6⟩, rfl⟩
    rw [List.length_range, List.take_length]
    exact k _ _ _ rfl h5 h6
theorem lg_s {A B C : List Ent} : ixU (lgs A B C) (.str "s") = some (.list [.list (A.map entD), .list (B.map entD)]) := by
  simp [lgs, ixU, isKey, lkp, keyEq]
theorem lg_t {A B C : List Ent} : ixU (lgs A B C) (.str "t") = some (.list [.list (C.map entD)]) := by
  simp [lgs, ixU, isKey, lkp, keyEq, str_iff]
theorem srt_st : srtU (lgs A B C) = some (.list [.str "s", .str "t"]) := by
  have h1 : sortOkT [(.str "s" : D), .str "t"] = true := by decide +kernel
  have c1 : (cmp3 (.str "t") (.str "s") == .lt) = false := by decide +kernel
  have h2 : [(.str "s" : D), .str "t"].mergeSort leD3 = [.str "s", .str "t"] := by
    refine (sort_one (fun d hd => ?_) (List.Perm.refl _) ?_).symm
    · simp only [List.mem_cons, List.not_mem_nil, or_false] at hd
      rcases hd with rfl | rfl <;> rfl
    · refine .cons (fun b hb => ?_) (.cons (fun b hb => by cases hb) .nil)
      rw [List.mem_singleton.mp hb]
      exact c1
  show (if _ then some (PyData.list ([(.str "s" : D), .str "t"].mergeSort leD3)) else none) = _
  rw [h2]
  exact if_pos ⟨rfl, rfl, h1⟩
theorem sp_on_time {A B C : List Ent} (hA : A.length ≤ 10) (hB : B.length ≤ 10) (hC : C.length ≤ 10) : f__law_on_time [lgs A B C] = some (.list ((plcs A B C).map plD)) := by
  rw [← wo_eq]
  unfold f__law_on_time
  rw [wo_runV]
  obtain ⟨BB, hB'⟩ : ∃ BB, onBody = BB := ⟨_, rfl⟩
  have part := @on_part
  show Ws (sSeq (sOwn 1 (gApp mkLst gNil)) (sSeq (sFor (gSeq (gSortU (gVar 0))) (gTN 2) (sFor (gRng1 (gCons (gApp lenF (gCons (gBin ixU (gVar 0) (gVar 2)) gNil)) gNil)) (gTN 3) onBody)) (sRet (gFrz 1)))) [some (.val (lgs A B C)), none, none, none, none, none, none] _
  rw [hB'] at part ⊢
  have r2 : rngL 0 2 = [.int (0 : Nat), .int (1 : Nat)] := rfl
  have r1 : rngL 0 1 = [.int (0 : Nat)] := rfl
  have s2 : small62 2 = true := by decide
  have s1 : small62 1 = true := by decide
  have l1 := pls_len "s" 0 A
  have l2 := pls_len "s" 1 B
  have l3 := pls_len "t" 0 C
  have s2 : small62 ((2 : Nat) : Int) = true := by decide
  have s1 : small62 ((1 : Nat) : Int) = true := by decide
  have t2 : ((2 : Nat) : Int).toNat = 2 := rfl
  have t1 : ((1 : Nat) : Int).toNat = 1 := rfl
  simp! [srt_st, lg_s, lg_t, for_cons, r1, r2, s1, s2, t1, t2]
  refine part lg_s (by rfl) (by omega) (by simp) rfl rfl rfl fun o4 o5 o6 c4 c5 c6 => ?_
  simp! [for_cons, c4, c5, c6]
  refine part lg_s (by rfl) (by omega) (by simp; omega) c4 c5 c6 fun o4 o5 o6 c4 c5 c6 => ?_
  simp! [lg_t, for_cons, r1, r2, s1, s2, t1, t2, c4, c5, c6]
  refine part lg_t (by rfl) (by omega) (by simp; omega) c4 c5 c6 fun o4 o5 o6 c4 c5 c6 => ?_
  simp! [for_cons]
  simp [plcs]
end Lw
set_option maxHeartbeats 4000000
namespace Lw
open PySem Dn Dm DnSo
local macro_rules | `(tactic| simp! [$xs,*]) => `(tactic| simp (maxSteps := 4000000) only [backE, wipeE, wo_some, wo_none, wm_c, wm_var, wm_frz, wm_bin, wm_un, wm_tst, wm_tru, wm_truB, wm_chain, wm_and, wm_or, wm_not, wm_andV, wm_orV, wm_notV, wm_ifE, wm_nil, wm_cons, wm_app, wm_noP, wm_part, wm_sl, wm_pk, wm_io, wm_ix, wm_inB, wm_true, wm_seq, wm_rng1, wm_rng2,
    then_nx, then_ret, then_rof, then_brk, then_cnt, ws_next, ws_brk, ws_cnt, ws_seq, ws_if, ws_ret, ws_rof, ws_drop, ws_set, ws_own, ws_asg, wo_TN, wo_TNil, wo_TCons, wo_TTup, ws_ap, ws_setIx, ws_for, for_nil, turn_nx, turn_cnt, turn_brk, turn_ret, turn_rof, wm_lc, end_ret, end_nx, end_rof, end_io, ownOf_own, valOf_val, frz_val, frz_own, frz_ownD, ixO_l, ixO_d, cOwn_own, peek_val, peek_own, peek_ownD, by_val, by_own, canSet_none, canSet_val, canSet_own, lstOf_list,
    List.getElem?_cons_zero, List.getElem?_cons_succ, List.set_cons_zero, List.set_cons_succ, List.length_cons, List.length_nil, wo_ite, wo_bind, ↓reduceIte, and_true, true_and, and_self, Bool.false_eq_true, Bool.not_true, Bool.not_false, decide_eq_true_eq, decide_true, decide_false, oneInt_int, twoInts_int,
    add_ii, add_ll, add_tt, add_ss, sub_ii, mul_ii, mulS_ii, mod_ii, fdiv_ii, neg_i, le_ii, gt_ii, ge_ii, eqT_ii, eqT_ss, eqT_bb, eqT_nn, ltT_ii, ltT_ss, wo_eqD, wo_neD, wo_ltD, wo_inD, wo_ninD, is_n, isnt_n, is_bb, isnt_bb, isN, bOf_b, iOf_i, tru_b, tru_n, tru_i, tru_l, tru_t, seq_l, seq_t, tup_l, tup_t, lst_l, lst_t, len_l, len_t, int_i, int_b, abs_i, max_ii, min_ii, ix_li, ix_ti, cut_l, cut_t, flat_i, flat_b, flat_s, ix0, ix1, ix2, mkTup, mkLst,
    add2_ll, ws_par3, three_c, ws_grp, empty_own, lOwnD_own, wm_lcW, wm_getD, wm_ind, ix3, ix4, ix_m2, ix_m1, ix_p2, ix_p1, wm_newD, ws_setK, wm_get, wm_ixK, wm_sortN, ws_ext, dOwn_own, lOwn_own, lsD_list, step_nx, step_cnt, step_brk, step_ret, step_rof, wm_reve, rev_l, rev_t, wm_opBL, repr_l, sort_l, sum_l, wm_enum, enum_l, enum_t, enumL_nil, wm_dic, wm_kvn, wm_kvc, seq_s, mulT_si, len_s, ord_c, str_i, ty_d, k_lb, k_li, k_ls, k_tb, k_ti, k_ts, k_db, k_di, k_ds, k_lt, k_tl,
    isi_1, tyOk_n, tyOk_b, tyOk_i, tyOk_s, tyOk_l, tyOk_t, ty_n, ty_b, ty_i, ty_s, ty_l, ty_t, k_nb, k_bb, k_ib, k_sb, k_ni, k_bi, k_ii, k_si, k_ns, k_bs, k_is, k_ss, k_ll, k_tt,
    Int.reduceNeg, Int.reducePow, Int.reduceLT, Int.reduceLE, Int.reduceAdd, Int.reduceSub, Int.reduceMul, Int.reduceToNat, Nat.reduceAdd, Nat.reduceLeDiff, Nat.reduceEqDiff, Int.reduceEq, reduceCtorEq, ws_grpL, empty_ownL, wo_TLst, wg_P, wg_end, wg_then, theng_nx, wg_yield, wm_callG, wo_runG, List.nil_append, wx_okD, wx_okL, wx_okB, wx_okS, wx_cons, wx_call, wx_app, wx_bin, wx_tst, wx_not, wx_ite, thenx_nx, thenx_ret, thenx_rof, thenx_brk, thenx_cnt, wx_seq, wx_if, wx_ret, wx_drop, wx_set, wx_apd, ownL_own, wx_raise, strOf_s, wx_for, ws_noX, wx_tryA, wx_try, retq_ret, either_l, either_r, endq_nx, endq_ret, hL_hd, gL_hd, wo_runX, wx_own, wl_nil, wl_cons, wx_lc, wm_keys, wm_callIOF, wm_fmt, fmt_s, fmt_i, js_s, wm_js0, wm_js, wm_sortU, wm_fT, fT_val, fT_own, ws_newT, txtC_own, ws_newTD, ws_fill, fill_nil, retn_ret, retn_nx, wx_tryN, $xs,*])
def evBody : Sd := (sSeq (sSet 5 (gApp f_late_indexes (gCons (gVar 4) gNil)))
  (sFor (gEnum (gCons (gVar 4) gNil)) (gTTup 2 (gTCons (gTN 6) (gTCons (gTN 7) gTNil)))
  (sIf (gAnd (gTst (gBin eqD (gBin ixD (gVar 7) (gC (.int 0))) (gC (.str "event")))) (gTst (gBin ninD (gVar 6) (gVar 5)))) (sApp 1 (gApp mkTup (gCons (gVar 2) (gCons (gVar 3) (gCons (gVar 6) gNil))))) sNext)))
theorem ev_part {LD : D} {x : Str} {n : Nat} {es : List Ent} {acc : List D} {o5 o6 o7 : Option Cell} {R : Fl → Dn.Env → Prop} (hes : es.length ≤ 1000) (hacc : acc.length ≤ 1000) (c5 : canSet (some o5) = some ()) (c6 : canSet (some o6) = some ()) (c7 : canSet (some o7) = some ())
    (k : ∀ o5 o6 o7 : Option Cell, canSet (some o5) = some () → canSet (some o6) = some () → canSet (some o7) = some () → R .nx [some (.val LD), some (.own false (.list (acc ++ (pls x n es).map plD))), some (.val (.str x)), some (.val (.int n)), some (.val (.list (es.map entD))), o5, o6, o7]) :
    Ws evBody [some (.val LD), some (.own false (.list acc)), some (.val (.str x)), some (.val (.int n)), some (.val (.list (es.map entD))), o5, o6, o7] R := by
  unfold evBody
  simp! [c5, sp_late (es := es) (by omega)]
  refine ws_forEn entD (fun p ρ => ∃ o6 o7 : Option Cell, (canSet (some o6) = some () ∧ canSet (some o7) = some ()) ∧ ρ = [some (.val LD), some (.own false (.list (acc ++ (pls x n p).map plD))), some (.val (.str x)), some (.val (.int n)), some (.val (.list (es.map entD))), some (.val (.list ((lat es).map fun i : Nat => .int i))), o6, o7]) ⟨o6, o7, ⟨c6, c7⟩, by simp [pls, ont]⟩ ?_ ?_
  · rintro p z s ρ e ⟨o6, o7, ⟨h6, h7⟩, rfl⟩
    have hpl := congrArg List.length e
    rw [List.length_append, List.length_cons] at hpl
    have hll := pls_len x n p
    have hat := lat_at e
    have hlen : (acc ++ (pls x n p).map plD).length < 16777216 := by rw [List.length_append, List.length_map]; omega
    rw [pls_snoc]
    cases z with
    | mk t =>
      have eo : onE p (.mk t) = false := rfl
      simp! [entD_mk, h6, h7, me]
      rw [eo, if_neg Bool.false_ne_true, List.append_nil]
      refine ⟨_, _, ⟨?_, ?_⟩, rfl⟩ <;> rfl
    | ev t r =>
      by_cases ht : t ≤ mrk p
      · have eo : onE p (.ev t r) = false := by simp [onE, ht]
        have hin : decide (p.length ∈ lat es) = true := decide_eq_true (hat.mpr ⟨rfl, ht⟩)
        simp! [entD_ev, h6, h7, in_nats, hin]
        rw [eo, if_neg Bool.false_ne_true, List.append_nil]
        refine ⟨_, _, ⟨?_, ?_⟩, rfl⟩ <;> rfl
      · have eo : onE p (.ev t r) = true := by simp [onE, ht]
        have hin : decide (p.length ∈ lat es) = false := decide_eq_false fun q => ht (hat.mp q).2
        simp! [entD_ev, h6, h7, in_nats, hin]
        rw [eo, if_pos rfl, List.map_append, ← List.append_assoc]
        refine ⟨hlen, _, _, ⟨?_, ?_⟩, rfl⟩ <;> rfl
  · rintro ρ' ⟨o6, o7, ⟨h6, h7⟩, rfl⟩
    exact k _ _ _ rfl h6 h7
theorem sp_events_of {A B C : List Ent} (hA : A.length ≤ 10) (hB : B.length ≤ 10) (hC : C.length ≤ 10) : f_events_of [lgs A B C] = some (.list ((plcs A B C).map plD)) := by
  rw [← wo_eq]
  unfold f_events_of
  rw [wo_runV]
  obtain ⟨BB, hB'⟩ : ∃ BB, evBody = BB := ⟨_, rfl⟩
  have part := @ev_part
  show Ws (sSeq (sOwn 1 (gApp mkLst gNil)) (sSeq (sFor (gSeq (gSortU (gVar 0))) (gTN 2) (sFor (gEnum (gCons (gBin ixU (gVar 0) (gVar 2)) gNil)) (gTTup 2 (gTCons (gTN 3) (gTCons (gTN 4) gTNil))) evBody)) (sRet (gFrz 1)))) [some (.val (lgs A B C)), none, none, none, none, none, none, none] _
  rw [hB'] at part ⊢
  have e2 : ∀ a b : D, enumL 0 [a, b] = [.tuple [.int (0 : Nat), a], .tuple [.int (1 : Nat), b]] := fun _ _ => rfl
  have e1 : ∀ a : D, enumL 0 [a] = [.tuple [.int (0 : Nat), a]] := fun _ => rfl
  have l1 := pls_len "s" 0 A
  have l2 := pls_len "s" 1 B
  have l3 := pls_len "t" 0 C
  simp! [srt_st, lg_s, lg_t, for_cons, e1, e2]
  refine part (by omega) (by simp) rfl rfl rfl fun o5 o6 o7 c5 c6 c7 => ?_
  simp! [for_cons, c5, c6, c7]
  refine part (by omega) (by simp; omega) c5 c6 c7 fun o5 o6 o7 c5 c6 c7 => ?_
  simp! [lg_t, for_cons, e1, e2, c5, c6, c7]
  refine part (by omega) (by simp; omega) c5 c6 c7 fun o5 o6 o7 c5 c6 c7 => ?_
  simp! [for_cons]
  simp [plcs]
def keepB (P : List Pl) (w : Bool) (x : Str) (n i : Nat) (e : Ent) : Bool := isMk e || (decide ((x, n, i) ∈ P) == w)
def kp (P : List Pl) (w : Bool) (x : Str) (n : Nat) (es : List Ent) : List Ent := (es.zipIdx.filter fun q => keepB P w x n q.2 q.1).map (·.1)
theorem kp_snoc (P : List Pl) (w : Bool) (x : Str) (n : Nat) (q : List Ent) (e : Ent) : kp P w x n (q ++ [e]) = kp P w x n q ++ (if keepB P w x n q.length e = true then [e] else []) := by
  unfold kp
  rw [List.zipIdx_append, List.filter_append, List.map_append]
  congr 1
  show (List.filter _ [(e, 0 + q.length)]).map _ = _
  rw [Nat.zero_add, List.filter_cons, List.filter_nil]
  split <;> rfl
theorem kp_len (P : List Pl) (w : Bool) (x : Str) (n : Nat) (es : List Ent) : (kp P w x n es).length ≤ es.length := by
  unfold kp
  rw [List.length_map]
  have := List.length_filter_le (fun q : Ent × Nat => keepB P w x n q.2 q.1) es.zipIdx
  rw [List.length_zipIdx] at this
  exact this
theorem kp_mem {P : List Pl} {w : Bool} {x : Str} {n : Nat} {es : List Ent} {e : Ent} (h : e ∈ kp P w x n es) : e ∈ es := by
  unfold kp at h
  obtain ⟨q, hq, rfl⟩ := List.mem_map.mp h
  have := (List.mem_filter.mp hq).1
  exact (List.mem_zipIdx' this).2 ▸ List.getElem_mem _
def gdP (p : Pl) : Prop := smD (plD p) = true
theorem shp_sm {d : D} (h : smD d = true) (hd : d.depth ≤ 60) : SeqAt.shaped d = true := by
  unfold SeqAt.shaped
  rw [(sm_ok d h).1]
  simp
  omega
theorem dep_pl (p : Pl) : (plD p).depth = 1 := by simp [plD, PyData.depth, PyData.depthAll]
theorem eqv_pl (p q : Pl) : PyData.eqv (plD p) (plD q) = decide (p = q) := by
  obtain ⟨x, n, i⟩ := p
  obtain ⟨y, m, j⟩ := q
  simp only [plD, PyData.eqv, PyData.eqvAll, Bool.and_true]
  by_cases h1 : x = y <;> by_cases h2 : n = m <;> by_cases h3 : i = j <;> simp [h1, h2, h3, Int.ofNat_inj]
theorem sh_pls {P : List Pl} (h : ∀ p ∈ P, gdP p) : SeqAt.shaped (.list (P.map plD)) = true := by
  refine shp_sm ?_ ?_
  · show smL _ = true
    exact smL_map fun p hp => h p hp
  · show PyData.depthAll _ + 1 ≤ 60
    have := depthL_map (f := plD) (xs := P) (n := 1) fun p _ => Nat.le_of_eq (dep_pl p)
    omega
theorem in_pl {P : List Pl} {p : Pl} (hp : gdP p) (h : ∀ q ∈ P, gdP q) : inT (plD p) (.list (P.map plD)) = some (decide (p ∈ P)) := by
  have h1 : SeqAt.shaped (plD p) = true := shp_sm hp (by rw [dep_pl]; omega)
  have h2 := sh_pls h
  show (if SeqAt.shaped (plD p) = true ∧ SeqAt.shaped (.list (P.map plD)) = true then some ((P.map plD).any fun z => PyData.eqv z (plD p)) else none) = _
  rw [if_pos ⟨h1, h2⟩]
  congr 1
  clear h1 h2 h hp
  induction P with
  | nil => rfl
  | cons q P ih =>
    rw [List.map_cons, List.any_cons, ih, eqv_pl]
    by_cases e : p = q
    · simp [e]
    · have e' : ¬ q = p := fun z => e z.symm
      simp [e, e']
end Lw
set_option maxHeartbeats 4000000
namespace Lw
open PySem Dn Dm DnSo
local macro_rules | `(tactic| simp! [$xs,*]) => `(tactic| simp (maxSteps := 4000000) only [backE, wipeE, wo_some, wo_none, wm_c, wm_var, wm_frz, wm_bin, wm_un, wm_tst, wm_tru, wm_truB, wm_chain, wm_and, wm_or, wm_not, wm_andV, wm_orV, wm_notV, wm_ifE, wm_nil, wm_cons, wm_app, wm_noP, wm_part, wm_sl, wm_pk, wm_io, wm_ix, wm_inB, wm_true, wm_seq, wm_rng1, wm_rng2,
    then_nx, then_ret, then_rof, then_brk, then_cnt, ws_next, ws_brk, ws_cnt, ws_seq, ws_if, ws_ret, ws_rof, ws_drop, ws_set, ws_own, ws_asg, wo_TN, wo_TNil, wo_TCons, wo_TTup, ws_ap, ws_setIx, ws_for, for_nil, turn_nx, turn_cnt, turn_brk, turn_ret, turn_rof, wm_lc, end_ret, end_nx, end_rof, end_io, ownOf_own, valOf_val, frz_val, frz_own, frz_ownD, ixO_l, ixO_d, cOwn_own, peek_val, peek_own, peek_ownD, by_val, by_own, canSet_none, canSet_val, canSet_own, lstOf_list,
    List.getElem?_cons_zero, List.getElem?_cons_succ, List.set_cons_zero, List.set_cons_succ, List.length_cons, List.length_nil, wo_ite, wo_bind, ↓reduceIte, and_true, true_and, and_self, Bool.false_eq_true, Bool.not_true, Bool.not_false, decide_eq_true_eq, decide_true, decide_false, oneInt_int, twoInts_int,
    add_ii, add_ll, add_tt, add_ss, sub_ii, mul_ii, mulS_ii, mod_ii, fdiv_ii, neg_i, le_ii, gt_ii, ge_ii, eqT_ii, eqT_ss, eqT_bb, eqT_nn, ltT_ii, ltT_ss, wo_eqD, wo_neD, wo_ltD, wo_inD, wo_ninD, is_n, isnt_n, is_bb, isnt_bb, isN, bOf_b, iOf_i, tru_b, tru_n, tru_i, tru_l, tru_t, seq_l, seq_t, tup_l, tup_t, lst_l, lst_t, len_l, len_t, int_i, int_b, abs_i, max_ii, min_ii, ix_li, ix_ti, cut_l, cut_t, flat_i, flat_b, flat_s, ix0, ix1, ix2, mkTup, mkLst,
    add2_ll, ws_par3, three_c, ws_grp, empty_own, lOwnD_own, wm_lcW, wm_getD, wm_ind, ix3, ix4, ix_m2, ix_m1, ix_p2, ix_p1, wm_newD, ws_setK, wm_get, wm_ixK, wm_sortN, ws_ext, dOwn_own, lOwn_own, lsD_list, step_nx, step_cnt, step_brk, step_ret, step_rof, wm_reve, rev_l, rev_t, wm_opBL, repr_l, sort_l, sum_l, wm_enum, enum_l, enum_t, enumL_nil, wm_dic, wm_kvn, wm_kvc, seq_s, mulT_si, len_s, ord_c, str_i, ty_d, k_lb, k_li, k_ls, k_tb, k_ti, k_ts, k_db, k_di, k_ds, k_lt, k_tl,
    isi_1, tyOk_n, tyOk_b, tyOk_i, tyOk_s, tyOk_l, tyOk_t, ty_n, ty_b, ty_i, ty_s, ty_l, ty_t, k_nb, k_bb, k_ib, k_sb, k_ni, k_bi, k_ii, k_si, k_ns, k_bs, k_is, k_ss, k_ll, k_tt,
    Int.reduceNeg, Int.reducePow, Int.reduceLT, Int.reduceLE, Int.reduceAdd, Int.reduceSub, Int.reduceMul, Int.reduceToNat, Nat.reduceAdd, Nat.reduceLeDiff, Nat.reduceEqDiff, Int.reduceEq, reduceCtorEq, ws_grpL, empty_ownL, wo_TLst, wg_P, wg_end, wg_then, theng_nx, wg_yield, wm_callG, wo_runG, List.nil_append, wx_okD, wx_okL, wx_okB, wx_okS, wx_cons, wx_call, wx_app, wx_bin, wx_tst, wx_not, wx_ite, thenx_nx, thenx_ret, thenx_rof, thenx_brk, thenx_cnt, wx_seq, wx_if, wx_ret, wx_drop, wx_set, wx_apd, ownL_own, wx_raise, strOf_s, wx_for, ws_noX, wx_tryA, wx_try, retq_ret, either_l, either_r, endq_nx, endq_ret, hL_hd, gL_hd, wo_runX, wx_own, wl_nil, wl_cons, wx_lc, wm_keys, wm_callIOF, wm_fmt, fmt_s, fmt_i, js_s, wm_js0, wm_js, wm_sortU, wm_fT, fT_val, fT_own, ws_newT, txtC_own, ws_newTD, ws_fill, fill_nil, retn_ret, retn_nx, wx_tryN, $xs,*])
theorem keep_ev {P : List Pl} {w : Bool} {x : Str} {n i : Nat} {t : Int} {r : List D} : keepB P w x n i (.ev t r) = true ↔ decide ((x, n, i) ∈ P) = w := by
  unfold keepB isMk
  rw [Bool.false_or, beq_iff_eq]
def keptBody : Sd := (sSeq (sOwn 7 (gApp mkLst gNil))
  (sSeq (sFor (gRng1 (gCons (gApp lenF (gCons (gBin ixD (gBin ixU (gVar 0) (gVar 4)) (gVar 6)) gNil)) gNil)) (gTN 8)
  (sSeq (sSet 9 (gBin ixD (gBin ixD (gBin ixU (gVar 0) (gVar 4)) (gVar 6)) (gVar 8)))
  (sIf (gOr (gTst (gBin eqD (gBin ixD (gVar 9) (gC (.int 0))) (gC (.str "mark")))) (gTst (gBin eqD (gBin inD (gApp mkTup (gCons (gVar 4) (gCons (gVar 6) (gCons (gVar 8) gNil)))) (gVar 1)) (gVar 2)))) (sApp 7 (gVar 9)) sNext)))
  (sApp 5 (gFrz 7))))
theorem left_part {LD : D} {ps : List D} {x : Str} {n : Nat} {es : List Ent} {acc : List D} {P : List Pl} {w : Bool} {o3 o7 o8 o9 : Option Cell} {R : Fl → Dn.Env → Prop} (h1 : ixU LD (.str x) = some (.list ps)) (h2 : ixA ps (n : Int) = some (.list (es.map entD))) (hes : es.length ≤ 1000) (hacc : acc.length ≤ 1000) (hP : ∀ q ∈ P, gdP q) (hx : ∀ i, i < es.length → gdP (x, n, i)) (c7 : canSet (some o7) = some ()) (c8 : canSet (some o8) = some ()) (c9 : canSet (some o9) = some ())
    (k : ∀ o7 o8 o9 : Option Cell, canSet (some o7) = some () → canSet (some o8) = some () → canSet (some o9) = some () → R .nx [some (.val LD), some (.val (.list (P.map plD))), some (.val (.bool w)), o3, some (.val (.str x)), some (.own false (.list (acc ++ [.list ((kp P w x n es).map entD)]))), some (.val (.int n)), o7, o8, o9]) :
    Ws keptBody [some (.val LD), some (.val (.list (P.map plD))), some (.val (.bool w)), o3, some (.val (.str x)), some (.own false (.list acc)), some (.val (.int n)), o7, o8, o9] R := by
  unfold keptBody
  simp! [c7, h1, h2, List.length_map]
  rw [if_pos (small_nat (by omega)), Int.toNat_natCast, rng_map]
  refine ws_forA (fun i : Nat => PyData.int i) (fun p ρ => ∃ o8 o9 : Option Cell, (canSet (some o8) = some () ∧ canSet (some o9) = some ()) ∧ ρ = [some (.val LD), some (.val (.list (P.map plD))), some (.val (.bool w)), o3, some (.val (.str x)), some (.own false (.list acc)), some (.val (.int n)), some (.own false (.list ((kp P w x n (es.take p.length)).map entD))), o8, o9]) ⟨o8, o9, ⟨c8, c9⟩, by simp [kp]⟩ ?_ ?_
  · rintro p i s ρ e ⟨o8, o9, ⟨h8, h9⟩, rfl⟩
    obtain ⟨e1, e2⟩ := rng_split e
    subst e1
    have e3 : es[p.length]? = some es[p.length] := List.getElem?_eq_getElem e2
    have e4 : ixA (es.map entD) (p.length : Int) = some (entD es[p.length]) := by rw [ixA_nat, List.getElem?_map, e3]; rfl
    have e5 : es.take (p.length + 1) = es.take p.length ++ [es[p.length]] := by rw [List.take_succ_eq_append_getElem e2]
    have e6 : (p ++ [p.length]).length = p.length + 1 := by simp
    rw [e6, e5]
    have hq : (es.take p.length).length = p.length := by rw [List.length_take]; omega
    have hin : inT (.tuple [.str x, .int n, .int p.length]) (.list (P.map plD)) = some (decide ((x, n, p.length) ∈ P)) := in_pl (hx _ e2) hP
    generalize es[p.length] = z at e4 ⊢
    generalize es.take p.length = q at hq ⊢
    have hll := kp_len P w x n q
    have hlen : ((kp P w x n q).map entD).length < 16777216 := by rw [List.length_map]; omega
    rw [kp_snoc, hq]
    cases z with
    | mk t =>
      have eo : keepB P w x n p.length (.mk t) = true := rfl
      rw [entD_mk] at e4
      simp! [h8, h9, h1, h2, e4]
      rw [eo, if_pos rfl, List.map_append]
      refine ⟨hlen, _, _, ⟨?_, ?_⟩, rfl⟩ <;> rfl
    | ev t r =>
      rw [entD_ev] at e4
      by_cases hk : keepB P w x n p.length (.ev t r) = true
      · have hkk := keep_ev.mp hk
        simp! [h8, h9, h1, h2, e4, em, hin, hkk, hk]
        rw [List.map_append]
        refine ⟨hlen, _, _, ⟨?_, ?_⟩, rfl⟩ <;> rfl
      · have hk' : keepB P w x n p.length (.ev t r) = false := by simpa using hk
        have hkk : ¬ decide ((x, n, p.length) ∈ P) = w := fun z => hk (keep_ev.mpr z)
        simp! [h8, h9, h1, h2, e4, em, hin, hkk, hk']
        rw [List.append_nil]
        refine ⟨_, _, ⟨?_, ?_⟩, rfl⟩ <;> rfl
  · rintro ρ' ⟨o8, o9, ⟨h8, h9⟩, rfl⟩
    rw [List.length_range, List.take_length]
    simp! []
    exact ⟨by omega, k _ _ _ rfl h8 h9⟩
def lefts (P : List Pl) (w : Bool) (A B C : List Ent) : D := lgs (kp P w "s" 0 A) (kp P w "s" 1 B) (kp P w "t" 0 C)
theorem keys_lg {A B C : List Ent} : keysE (lgs A B C) = some [.str "s", .str "t"] := by
  show (if dkOk [((.str "s" : D), PyData.list [.list (A.map entD), .list (B.map entD)]), (.str "t", .list [.list (C.map entD)])] = true then some (keysU [((.str "s" : D), PyData.list [.list (A.map entD), .list (B.map entD)]), (.str "t", .list [.list (C.map entD)])]) else none) = _
  exact if_pos (by simp [dkOk, isKey])
structure Gd (A B C : List Ent) (P : List Pl) : Prop where
  a : A.length ≤ 10
  b : B.length ≤ 10
  c : C.length ≤ 10
  p : ∀ q ∈ P, gdP q
theorem gd_st : ∀ x ∈ ([("s", 0), ("s", 1), ("t", 0)] : List (Str × Nat)), ∀ i : Nat, i < 10 → smD (plD (x.1, x.2, i)) = true := by decide +kernel
theorem put_s {v : D} : putU [] (.str "s") v = [(.str "s", v)] := rfl
theorem put_t {v u : D} : putU [(.str "s", v)] (.str "t") u = [(.str "s", v), (.str "t", u)] := by
  simp [putU, keyEq, str_iff]
theorem sp_law_left {A B C : List Ent} {P : List Pl} {w : Bool} (g : Gd A B C P) : f__law_left [lgs A B C, .list (P.map plD), .bool w] = some (lefts P w A B C) := by
  rw [← wo_eq]
  unfold f__law_left
  rw [wo_runV]
  obtain ⟨BB, hB'⟩ : ∃ BB, keptBody = BB := ⟨_, rfl⟩
  have part := @left_part
  show Ws (sSeq (sNewT 3) (sSeq (sFor (gKeys (gVar 0)) (gTN 4) (sSeq (sOwn 5 (gApp mkLst gNil)) (sSeq (sFor (gRng1 (gCons (gApp lenF (gCons (gBin ixU (gVar 0) (gVar 4)) gNil)) gNil)) (gTN 6) keptBody) (sSetT 3 (gFrz 5) (gVar 4))))) (sRet (gFrzT 3)))) [some (.val (lgs A B C)), some (.val (.list (P.map plD))), some (.val (.bool w)), none, none, none, none, none, none, none] _
  rw [hB'] at part ⊢
  have r2 : rngL 0 2 = [.int (0 : Nat), .int (1 : Nat)] := rfl
  have r1 : rngL 0 1 = [.int (0 : Nat)] := rfl
  have s2 : small62 ((2 : Nat) : Int) = true := by decide
  have s1 : small62 ((1 : Nat) : Int) = true := by decide
  have t2 : ((2 : Nat) : Int).toNat = 2 := rfl
  have t1 : ((1 : Nat) : Int).toNat = 1 := rfl
  have d1 := fun i (h : i < A.length) => gd_st ("s", 0) (by simp) i (by have := g.a; omega)
  have d2 := fun i (h : i < B.length) => gd_st ("s", 1) (by simp) i (by have := g.b; omega)
  have d3 := fun i (h : i < C.length) => gd_st ("t", 0) (by simp) i (by have := g.c; omega)
  have la := g.a
  have lb := g.b
  have lc := g.c
  simp! [keys_lg, lg_s, lg_t, for_cons, r1, r2, s1, s2, t1, t2]
  refine part lg_s (by rfl) (by omega) (by simp) g.p d1 rfl rfl rfl fun o7 o8 o9 c7 c8 c9 => ?_
  simp! [for_cons, c7, c8, c9]
  refine part lg_s (by rfl) (by omega) (by simp) g.p d2 c7 c8 c9 fun o7 o8 o9 c7 c8 c9 => ?_
  simp! [for_cons]
  refine setT_w ?_
  simp! []
  refine ⟨⟨_, _, rfl⟩, _, rfl, rfl, by simp, ?_⟩
  rw [put_s]
  simp! [lg_t, for_cons, r1, r2, s1, s2, t1, t2, c7, c8, c9]
  refine part lg_t (by rfl) (by omega) (by simp) g.p d3 c7 c8 c9 fun o7 o8 o9 c7 c8 c9 => ?_
  simp! [for_cons]
  refine setT_w ?_
  simp! []
  refine ⟨⟨_, _, rfl⟩, _, rfl, rfl, by simp, ?_⟩
  rw [put_t]
  simp! [for_cons]
  rfl
end Lw
set_option maxHeartbeats 4000000
namespace Lw
open PySem Dn Dm DnSo
local macro_rules | `(tactic| simp! [$xs,*]) => `(tactic| simp (maxSteps := 4000000) only [backE, wipeE, wo_some, wo_none, wm_c, wm_var, wm_frz, wm_bin, wm_un, wm_tst, wm_tru, wm_truB, wm_chain, wm_and, wm_or, wm_not, wm_andV, wm_orV, wm_notV, wm_ifE, wm_nil, wm_cons, wm_app, wm_noP, wm_part, wm_sl, wm_pk, wm_io, wm_ix, wm_inB, wm_true, wm_seq, wm_rng1, wm_rng2,
    then_nx, then_ret, then_rof, then_brk, then_cnt, ws_next, ws_brk, ws_cnt, ws_seq, ws_if, ws_ret, ws_rof, ws_drop, ws_set, ws_own, ws_asg, wo_TN, wo_TNil, wo_TCons, wo_TTup, ws_ap, ws_setIx, ws_for, for_nil, turn_nx, turn_cnt, turn_brk, turn_ret, turn_rof, wm_lc, end_ret, end_nx, end_rof, end_io, ownOf_own, valOf_val, frz_val, frz_own, frz_ownD, ixO_l, ixO_d, cOwn_own, peek_val, peek_own, peek_ownD, by_val, by_own, canSet_none, canSet_val, canSet_own, lstOf_list,
    List.getElem?_cons_zero, List.getElem?_cons_succ, List.set_cons_zero, List.set_cons_succ, List.length_cons, List.length_nil, wo_ite, wo_bind, ↓reduceIte, and_true, true_and, and_self, Bool.false_eq_true, Bool.not_true, Bool.not_false, decide_eq_true_eq, decide_true, decide_false, oneInt_int, twoInts_int,
    add_ii, add_ll, add_tt, add_ss, sub_ii, mul_ii, mulS_ii, mod_ii, fdiv_ii, neg_i, le_ii, gt_ii, ge_ii, eqT_ii, eqT_ss, eqT_bb, eqT_nn, ltT_ii, ltT_ss, wo_eqD, wo_neD, wo_ltD, wo_inD, wo_ninD, is_n, isnt_n, is_bb, isnt_bb, isN, bOf_b, iOf_i, tru_b, tru_n, tru_i, tru_l, tru_t, seq_l, seq_t, tup_l, tup_t, lst_l, lst_t, len_l, len_t, int_i, int_b, abs_i, max_ii, min_ii, ix_li, ix_ti, cut_l, cut_t, flat_i, flat_b, flat_s, ix0, ix1, ix2, mkTup, mkLst,
    add2_ll, ws_par3, three_c, ws_grp, empty_own, lOwnD_own, wm_lcW, wm_getD, wm_ind, ix3, ix4, ix_m2, ix_m1, ix_p2, ix_p1, wm_newD, ws_setK, wm_get, wm_ixK, wm_sortN, ws_ext, dOwn_own, lOwn_own, lsD_list, step_nx, step_cnt, step_brk, step_ret, step_rof, wm_reve, rev_l, rev_t, wm_opBL, repr_l, sort_l, sum_l, wm_enum, enum_l, enum_t, enumL_nil, wm_dic, wm_kvn, wm_kvc, seq_s, mulT_si, len_s, ord_c, str_i, ty_d, k_lb, k_li, k_ls, k_tb, k_ti, k_ts, k_db, k_di, k_ds, k_lt, k_tl,
    isi_1, tyOk_n, tyOk_b, tyOk_i, tyOk_s, tyOk_l, tyOk_t, ty_n, ty_b, ty_i, ty_s, ty_l, ty_t, k_nb, k_bb, k_ib, k_sb, k_ni, k_bi, k_ii, k_si, k_ns, k_bs, k_is, k_ss, k_ll, k_tt,
    Int.reduceNeg, Int.reducePow, Int.reduceLT, Int.reduceLE, Int.reduceAdd, Int.reduceSub, Int.reduceMul, Int.reduceToNat, Nat.reduceAdd, Nat.reduceLeDiff, Nat.reduceEqDiff, Int.reduceEq, reduceCtorEq, ws_grpL, empty_ownL, wo_TLst, wg_P, wg_end, wg_then, theng_nx, wg_yield, wm_callG, wo_runG, List.nil_append, wx_okD, wx_okL, wx_okB, wx_okS, wx_cons, wx_call, wx_app, wx_bin, wx_tst, wx_not, wx_ite, thenx_nx, thenx_ret, thenx_rof, thenx_brk, thenx_cnt, wx_seq, wx_if, wx_ret, wx_drop, wx_set, wx_apd, ownL_own, wx_raise, strOf_s, wx_for, ws_noX, wx_tryA, wx_try, retq_ret, either_l, either_r, endq_nx, endq_ret, hL_hd, gL_hd, wo_runX, wx_own, wl_nil, wl_cons, wx_lc, wm_keys, wm_callIOF, wm_fmt, fmt_s, fmt_i, js_s, wm_js0, wm_js, wm_sortU, wm_fT, fT_val, fT_own, ws_newT, txtC_own, ws_newTD, ws_fill, fill_nil, retn_ret, retn_nx, wx_tryN, $xs,*])
def K2 (key : D) (acc : List D) (ρ : Dn.Env) : Option (List D × Dn.Env) := ((gVar 5) ρ).bind fun q => if keyEq q.1 key = true ∧ acc.length < 16777216 then ((gFrz 8) q.2).bind fun r => some (acc ++ [r.1], r.2) else none
def leftFor : Sd := (sFor (gEnum (gCons (gVar 7) gNil)) (gTTup 2 (gTCons (gTN 9) (gTCons (gTN 10) gTNil)))
  (sIf (gOr (gTst (gBin eqD (gBin ixD (gVar 10) (gC (.int 0))) (gC (.str "mark")))) (gTst (gBin eqD (gBin inD (gApp mkTup (gCons (gVar 5) (gCons (gVar 6) (gCons (gVar 9) gNil)))) (gVar 1)) (gVar 2)))) (sApp 8 (gVar 10)) sNext))
def K1 (key : D) (acc : List D) (ρ : Dn.Env) : Option (List D × Dn.Env) := (leftFor ρ).bind fun p => match p.1 with | .nx => K2 key acc p.2 | _ => none
def gT83 : D → List D → Dn.Env → Option (List D × Dn.Env) := fun key acc ρ => ((sOwn 8 (gApp mkLst gNil)) ρ).bind fun p => match p.1 with | .nx => K1 key acc p.2 | _ => none
theorem turn_left {LD : D} {o3 : Option Cell} {x : Str} {n : Nat} {es : List Ent} {acc : List D} {P : List Pl} {w : Bool} {o4 o8 o9 o10 : Option Cell} {Q : List D × Dn.Env → Prop} (hes : es.length ≤ 1000) (hacc : acc.length ≤ 1000) (hP : ∀ q ∈ P, gdP q) (hx : ∀ i, i < es.length → gdP (x, n, i)) (c8 : canSet (some o8) = some ()) (c9 : canSet (some o9) = some ()) (c10 : canSet (some o10) = some ())
    (k : ∀ o8 o9 o10 : Option Cell, canSet (some o8) = some () → canSet (some o9) = some () → canSet (some o10) = some () → Q (acc ++ [.list ((kp P w x n es).map entD)], [some (.val LD), some (.val (.list (P.map plD))), some (.val (.bool w)), o3, o4, some (.val (.str x)), some (.val (.int n)), some (.val (.list (es.map entD))), o8, o9, o10])) :
    Wo (gT83 (.str x) acc [some (.val LD), some (.val (.list (P.map plD))), some (.val (.bool w)), o3, o4, some (.val (.str x)), some (.val (.int n)), some (.val (.list (es.map entD))), o8, o9, o10]) Q := by
  refine ft_step (s := sOwn 8 (gApp mkLst gNil)) (k := K1 (.str x) acc) ?_
  simp! [c8]
  refine ft_step (s := leftFor) (k := K2 (.str x) acc) ?_
  unfold leftFor
  simp! []
  refine ws_forEn entD (fun p ρ => ∃ o9 o10 : Option Cell, (canSet (some o9) = some () ∧ canSet (some o10) = some ()) ∧ ρ = [some (.val LD), some (.val (.list (P.map plD))), some (.val (.bool w)), o3, o4, some (.val (.str x)), some (.val (.int n)), some (.val (.list (es.map entD))), some (.own false (.list ((kp P w x n p).map entD))), o9, o10]) ⟨o9, o10, ⟨c9, c10⟩, by simp [kp]⟩ ?_ ?_
  · rintro p z s ρ e ⟨o9, o10, ⟨h9, h10⟩, rfl⟩
    have hpl := congrArg List.length e
    rw [List.length_append, List.length_cons] at hpl
    have hll := kp_len P w x n p
    have hlen : ((kp P w x n p).map entD).length < 16777216 := by rw [List.length_map]; omega
    have hin : inT (.tuple [.str x, .int n, .int p.length]) (.list (P.map plD)) = some (decide ((x, n, p.length) ∈ P)) := in_pl (hx _ (by omega)) hP
    rw [kp_snoc]
    cases z with
    | mk t =>
      have eo : keepB P w x n p.length (.mk t) = true := rfl
      simp! [entD_mk, h9, h10]
      rw [eo, if_pos rfl, List.map_append]
      refine ⟨hlen, _, _, ⟨?_, ?_⟩, rfl⟩ <;> rfl
    | ev t r =>
      by_cases hk : keepB P w x n p.length (.ev t r) = true
      · have hkk := keep_ev.mp hk
        simp! [entD_ev, h9, h10, em, hin, hkk, hk]
        rw [List.map_append]
        refine ⟨hlen, _, _, ⟨?_, ?_⟩, rfl⟩ <;> rfl
      · have hk' : keepB P w x n p.length (.ev t r) = false := by simpa using hk
        have hkk : ¬ decide ((x, n, p.length) ∈ P) = w := fun z => hk (keep_ev.mpr z)
        simp! [entD_ev, h9, h10, em, hin, hkk, hk']
        rw [List.append_nil]
        refine ⟨_, _, ⟨?_, ?_⟩, rfl⟩ <;> rfl
  · rintro ρ' ⟨o9, o10, ⟨h9, h10⟩, rfl⟩
    refine ⟨rfl, ?_⟩
    have hkey : keyEq (.str x) (.str x) = true := by simp [keyEq]
    refine ⟨(acc ++ [.list ((kp P w x n es).map entD)], [some (.val LD), some (.val (.list (P.map plD))), some (.val (.bool w)), o3, o4, some (.val (.str x)), some (.val (.int n)), some (.val (.list (es.map entD))), some (.val (.list ((kp P w x n es).map entD))), o9, o10]), ?_, k _ _ _ rfl h9 h10⟩
    show (if keyEq (.str x) (.str x) = true ∧ acc.length < 16777216 then _ else none) = _
    rw [if_pos ⟨hkey, by omega⟩]
    rfl
theorem sp_left_in {A B C : List Ent} {P : List Pl} {w : Bool} (g : Gd A B C P) (hv : ∀ q ∈ P, ∃ d, f_event_at [lgs A B C, plD q] = some (.inl d)) : f_left_in [lgs A B C, .list (P.map plD), .bool w] = some (.inl (lefts P w A B C)) := by
  rw [← wo_eq]
  unfold f_left_in
  rw [wo_runX]
  show Wx (xSeq (xFor (gSeq (gVar 1)) (gTN 3) (xDrop (xCall f_event_at (xOk (gCons (gVar 0) (gCons (gVar 3) gNil)))))) (xSeq (xOk (sNewT 4)) (xSeq (xOk (sFor (gKeys (gVar 0)) (gTN 5) (sFill 4 (gVar 5) (gEnum (gCons (gBin ixU (gVar 0) (gVar 5)) gNil)) (gTTup 2 (gTCons (gTN 6) (gTCons (gTN 7) gTNil))) gT83))) (xOk (sRet (gFrzT 4)))))) [some (.val (lgs A B C)), some (.val (.list (P.map plD))), some (.val (.bool w)), none, none, none, none, none, none, none, none] _ _
  have e2 : ∀ a b : D, enumL 0 [a, b] = [.tuple [.int (0 : Nat), a], .tuple [.int (1 : Nat), b]] := fun _ _ => rfl
  have e1 : ∀ a : D, enumL 0 [a] = [.tuple [.int (0 : Nat), a]] := fun _ => rfl
  have d1 := fun i (h : i < A.length) => gd_st ("s", 0) (by simp) i (by have := g.a; omega)
  have d2 := fun i (h : i < B.length) => gd_st ("s", 1) (by simp) i (by have := g.b; omega)
  have d3 := fun i (h : i < C.length) => gd_st ("t", 0) (by simp) i (by have := g.c; omega)
  have la := g.a
  have lb := g.b
  have lc := g.c
  simp! []
  refine wx_forA plD (fun _ ρ => ∃ o3 : Option Cell, (o3 = none ∨ ∃ d, o3 = some (.val d)) ∧ ρ = [some (.val (lgs A B C)), some (.val (.list (P.map plD))), some (.val (.bool w)), o3, none, none, none, none, none, none, none]) ⟨none, .inl rfl, rfl⟩ ?_ ?_
  · rintro q z s ρ e ⟨o3, h3, rfl⟩
    obtain ⟨d, hd⟩ := hv z (by rw [e]; simp)
    have c3 : canSet (some o3) = some () := by rcases h3 with rfl | ⟨d, rfl⟩ <;> rfl
    simp! [c3, hd]
    exact ⟨_, .inr ⟨_, rfl⟩, rfl⟩
  · rintro ρ' ⟨o3, h3, rfl⟩
    have k1 : isKey (.str "s") = true := rfl
    have k2 : isKey (.str "t") = true := rfl
    simp! [keys_lg, for_cons, lg_s, e2, k1, fill_cons]
    refine ⟨by decide, ?_⟩
    refine turn_left (by omega) (by simp) g.p d1 rfl rfl rfl fun o8 o9 o10 c8 c9 c10 => ?_
    simp! []
    refine turn_left (by omega) (by simp) g.p d2 c8 c9 c10 fun o8 o9 o10 c8 c9 c10 => ?_
    simp! [put_s, lg_t, e1, k2, fill_cons, for_cons]
    refine ⟨by simp, ?_⟩
    refine turn_left (by omega) (by simp) g.p d3 c8 c9 c10 fun o8 o9 o10 c8 c9 c10 => ?_
    simp! [put_t, for_cons]
    rfl
theorem left_no {LD p : D} {w : Bool} {xc : Xc} (h : f_event_at [LD, p] = some (.inr xc)) : f_left_in [LD, .list [p], .bool w] = some (.inr xc) := by
  rw [← wo_eq]
  unfold f_left_in
  rw [wo_runX]
  show Wx g_left_in [some (.val LD), some (.val (.list [p])), some (.val (.bool w)), none, none, none, none, none, none, none, none] _ _
  obtain ⟨T, hT⟩ : ∃ T : Sx, T = (xSeq (xOk (sNewT 4)) (xSeq (xOk (sFor (gKeys (gVar 0)) (gTN 5) (sFill 4 (gVar 5) (gEnum (gCons (gBin ixU (gVar 0) (gVar 5)) gNil)) (gTTup 2 (gTCons (gTN 6) (gTCons (gTN 7) gTNil))) gT83))) (xOk (sRet (gFrzT 4))))) := ⟨_, rfl⟩
  show Wx (xSeq (xFor (gSeq (gVar 1)) (gTN 3) (xDrop (xCall f_event_at (xOk (gCons (gVar 0) (gCons (gVar 3) gNil)))))) (xSeq (xOk (sNewT 4)) (xSeq (xOk (sFor (gKeys (gVar 0)) (gTN 5) (sFill 4 (gVar 5) (gEnum (gCons (gBin ixU (gVar 0) (gVar 5)) gNil)) (gTTup 2 (gTCons (gTN 6) (gTCons (gTN 7) gTNil))) gT83))) (xOk (sRet (gFrzT 4)))))) _ _ _
  rw [← hT]
  simp! [forx_cons, h]
theorem sp_only {A B C : List Ent} {P : List Pl} (g : Gd A B C P) (hv : ∀ q ∈ P, ∃ d, f_event_at [lgs A B C, plD q] = some (.inl d)) : f_only_these [lgs A B C, .list (P.map plD)] = some (.inl (lefts P true A B C)) := by
  rw [← wo_eq]
  unfold f_only_these
  rw [wo_runX]
  show Wx g_only_these [some (.val (lgs A B C)), some (.val (.list (P.map plD)))] _ _
  unfold g_only_these
  simp! [sp_left_in g hv]
theorem sp_without {A B C : List Ent} {P : List Pl} (g : Gd A B C P) (hv : ∀ q ∈ P, ∃ d, f_event_at [lgs A B C, plD q] = some (.inl d)) : f_without_these [lgs A B C, .list (P.map plD)] = some (.inl (lefts P false A B C)) := by
  rw [← wo_eq]
  unfold f_without_these
  rw [wo_runX]
  show Wx g_without_these [some (.val (lgs A B C)), some (.val (.list (P.map plD)))] _ _
  unfold g_without_these
  simp! [sp_left_in g hv]
theorem only_no {LD p : D} {xc : Xc} (h : f_event_at [LD, p] = some (.inr xc)) : f_only_these [LD, .list [p]] = some (.inr xc) := by
  rw [← wo_eq]
  unfold f_only_these
  rw [wo_runX]
  show Wx g_only_these [some (.val LD), some (.val (.list [p]))] _ _
  unfold g_only_these
  simp! [left_no h]
theorem without_no {LD p : D} {xc : Xc} (h : f_event_at [LD, p] = some (.inr xc)) : f_without_these [LD, .list [p]] = some (.inr xc) := by
  rw [← wo_eq]
  unfold f_without_these
  rw [wo_runX]
  show Wx g_without_these [some (.val LD), some (.val (.list [p]))] _ _
  unfold g_without_these
  simp! [left_no h]
end Lw
set_option maxHeartbeats 4000000
namespace Lw
open PySem Dn Dm DnSo
local macro_rules | `(tactic| simp! [$xs,*]) => `(tactic| simp (maxSteps := 4000000) only [backE, wipeE, wo_some, wo_none, wm_c, wm_var, wm_frz, wm_bin, wm_un, wm_tst, wm_tru, wm_truB, wm_chain, wm_and, wm_or, wm_not, wm_andV, wm_orV, wm_notV, wm_ifE, wm_nil, wm_cons, wm_app, wm_noP, wm_part, wm_sl, wm_pk, wm_io, wm_ix, wm_inB, wm_true, wm_seq, wm_rng1, wm_rng2,
    then_nx, then_ret, then_rof, then_brk, then_cnt, ws_next, ws_brk, ws_cnt, ws_seq, ws_if, ws_ret, ws_rof, ws_drop, ws_set, ws_own, ws_asg, wo_TN, wo_TNil, wo_TCons, wo_TTup, ws_ap, ws_setIx, ws_for, for_nil, turn_nx, turn_cnt, turn_brk, turn_ret, turn_rof, wm_lc, end_ret, end_nx, end_rof, end_io, ownOf_own, valOf_val, frz_val, frz_own, frz_ownD, ixO_l, ixO_d, cOwn_own, peek_val, peek_own, peek_ownD, by_val, by_own, canSet_none, canSet_val, canSet_own, lstOf_list,
    List.getElem?_cons_zero, List.getElem?_cons_succ, List.set_cons_zero, List.set_cons_succ, List.length_cons, List.length_nil, wo_ite, wo_bind, ↓reduceIte, and_true, true_and, and_self, Bool.false_eq_true, Bool.not_true, Bool.not_false, decide_eq_true_eq, decide_true, decide_false, oneInt_int, twoInts_int,
    add_ii, add_ll, add_tt, add_ss, sub_ii, mul_ii, mulS_ii, mod_ii, fdiv_ii, neg_i, le_ii, gt_ii, ge_ii, eqT_ii, eqT_ss, eqT_bb, eqT_nn, ltT_ii, ltT_ss, wo_eqD, wo_neD, wo_ltD, wo_inD, wo_ninD, is_n, isnt_n, is_bb, isnt_bb, isN, bOf_b, iOf_i, tru_b, tru_n, tru_i, tru_l, tru_t, seq_l, seq_t, tup_l, tup_t, lst_l, lst_t, len_l, len_t, int_i, int_b, abs_i, max_ii, min_ii, ix_li, ix_ti, cut_l, cut_t, flat_i, flat_b, flat_s, ix0, ix1, ix2, mkTup, mkLst,
    add2_ll, ws_par3, three_c, ws_grp, empty_own, lOwnD_own, wm_lcW, wm_getD, wm_ind, ix3, ix4, ix_m2, ix_m1, ix_p2, ix_p1, wm_newD, ws_setK, wm_get, wm_ixK, wm_sortN, ws_ext, dOwn_own, lOwn_own, lsD_list, step_nx, step_cnt, step_brk, step_ret, step_rof, wm_reve, rev_l, rev_t, wm_opBL, repr_l, sort_l, sum_l, wm_enum, enum_l, enum_t, enumL_nil, wm_dic, wm_kvn, wm_kvc, seq_s, mulT_si, len_s, ord_c, str_i, ty_d, k_lb, k_li, k_ls, k_tb, k_ti, k_ts, k_db, k_di, k_ds, k_lt, k_tl,
    isi_1, tyOk_n, tyOk_b, tyOk_i, tyOk_s, tyOk_l, tyOk_t, ty_n, ty_b, ty_i, ty_s, ty_l, ty_t, k_nb, k_bb, k_ib, k_sb, k_ni, k_bi, k_ii, k_si, k_ns, k_bs, k_is, k_ss, k_ll, k_tt,
    Int.reduceNeg, Int.reducePow, Int.reduceLT, Int.reduceLE, Int.reduceAdd, Int.reduceSub, Int.reduceMul, Int.reduceToNat, Nat.reduceAdd, Nat.reduceLeDiff, Nat.reduceEqDiff, Int.reduceEq, reduceCtorEq, ws_grpL, empty_ownL, wo_TLst, wg_P, wg_end, wg_then, theng_nx, wg_yield, wm_callG, wo_runG, List.nil_append, wx_okD, wx_okL, wx_okB, wx_okS, wx_cons, wx_call, wx_app, wx_bin, wx_tst, wx_not, wx_ite, thenx_nx, thenx_ret, thenx_rof, thenx_brk, thenx_cnt, wx_seq, wx_if, wx_ret, wx_drop, wx_set, wx_apd, ownL_own, wx_raise, strOf_s, wx_for, ws_noX, wx_tryA, wx_try, retq_ret, either_l, either_r, endq_nx, endq_ret, hL_hd, gL_hd, wo_runX, wx_own, wl_nil, wl_cons, wx_lc, wm_keys, wm_callIOF, wm_fmt, fmt_s, fmt_i, js_s, wm_js0, wm_js, wm_sortU, wm_fT, fT_val, fT_own, ws_newT, txtC_own, ws_newTD, ws_fill, fill_nil, retn_ret, retn_nx, wx_tryN, $xs,*])
def tI (i : Int) : Str := Str.ofString (toString i)
def m1 (x : Str) : Str := Str.ofString "there is no event at " ++ x
def m2 (x : Str) : Str := m1 x ++ Str.ofString ", "
def m3 (x : Str) (n : Int) : Str := m2 x ++ tI n
def m4 (x : Str) (n : Int) : Str := m3 x n ++ Str.ofString ", "
def m5 (x : Str) (n i : Int) : Str := m4 x n ++ tI i
def bads : List (Str × Int × Int) := [("s", 0, 9), ("s", 2, 0), ("u", 0, 0), ("t", 1, 1), ("t", 0, 0), ("t", 0, 1), ("t", 0, 2), ("t", 0, 3)]
structure Bd (x : Str) (n i : Int) : Prop where
  xl : x.length ≤ 10
  e : (Str.empty ++ Str.ofString "there is no event at ") = Str.ofString "there is no event at "
  l0 : (Str.ofString "there is no event at ").length ≤ 100
  l1 : (m1 x).length ≤ 100
  l2 : (m2 x).length ≤ 100
  l3 : (m3 x n).length ≤ 100
  l4 : (m4 x n).length ≤ 100
  l5 : (m5 x n i).length ≤ 100
  t1 : (tI n).length ≤ 10
  t2 : (tI i).length ≤ 10
  c : (Str.ofString ", ").length ≤ 10
  g1 : n.natAbs.log2 < 1920
  g2 : i.natAbs.log2 < 1920
  s : smD (.str (m5 x n i)) = true
theorem bad_all : ∀ b ∈ bads, (b.1.length ≤ 10 ∧ (Str.empty ++ Str.ofString "there is no event at ") = Str.ofString "there is no event at " ∧ (Str.ofString "there is no event at ").length ≤ 100 ∧ (m1 b.1).length ≤ 100 ∧ (m2 b.1).length ≤ 100 ∧ (m3 b.1 b.2.1).length ≤ 100 ∧ (m4 b.1 b.2.1).length ≤ 100 ∧ (m5 b.1 b.2.1 b.2.2).length ≤ 100) ∧
    (tI b.2.1).length ≤ 10 ∧ (tI b.2.2).length ≤ 10 ∧ (Str.ofString ", ").length ≤ 10 ∧ b.2.1.natAbs.log2 < 1920 ∧ b.2.2.natAbs.log2 < 1920 ∧ smD (.str (m5 b.1 b.2.1 b.2.2)) = true := by decide +kernel
theorem bad_bd {x : Str} {n i : Int} (h : (x, n, i) ∈ bads) : Bd x n i := by
  obtain ⟨⟨a1, a2, a3, a4, a5, a6, a7, a8⟩, b1, b2, b3, b4, b5, b6⟩ := bad_all _ h
  exact ⟨a1, a2, a3, a4, a5, a6, a7, a8, b1, b2, b3, b4, b5, b6⟩
/-- why there is no event -/
inductive Nov (LD : D) (x : Str) (n i : Int) : Prop
  | nm (h0 : inU (.str x) LD = some (.bool false))
  | pt (ps : List D) (h0 : inU (.str x) LD = some (.bool true)) (h1 : ixU LD (.str x) = some (.list ps)) (hn : (ps.length : Int) ≤ n)
  | ix (ps : List D) (es : List Ent) (h0 : inU (.str x) LD = some (.bool true)) (h1 : ixU LD (.str x) = some (.list ps)) (hn : 0 ≤ n ∧ n < ps.length) (h2 : ixA ps n = some (.list (es.map entD))) (hi : (es.length : Int) ≤ i)
  | mk (ps : List D) (es : List Ent) (t : Int) (h0 : inU (.str x) LD = some (.bool true)) (h1 : ixU LD (.str x) = some (.list ps)) (hn : 0 ≤ n ∧ n < ps.length) (h2 : ixA ps n = some (.list (es.map entD))) (hi : 0 ≤ i ∧ i < es.length) (h3 : ixA (es.map entD) i = some (.tuple [.str "mark", .int t]))
def evTail : Sx := xRaise "InvalidLogs" (gJs [(gC (.str "there is no event at ")), (gFmt (gVar 2)), (gC (.str ", ")), (gFmt (gVar 3)), (gC (.str ", ")), (gFmt (gVar 4))] Str.empty)
def evHead : Sx := (xOk (sIf (gAnd (gTst (gBin inU (gVar 2) (gVar 0))) (gAnd (gTst (gChain leD ltD (gC (.int 0)) (gVar 3) (gApp lenF (gCons (gBin ixU (gVar 0) (gVar 2)) gNil)))) (gTst (gChain leD ltD (gC (.int 0)) (gVar 4) (gApp lenF (gCons (gBin ixD (gBin ixU (gVar 0) (gVar 2)) (gVar 3)) gNil)))))) (sSeq (sSet 5 (gBin ixD (gBin ixD (gBin ixU (gVar 0) (gVar 2)) (gVar 3)) (gVar 4)))
  (sIf (gTst (gBin eqD (gBin ixD (gVar 5) (gC (.int 0))) (gC (.str "event")))) (sRet (gVar 5)) sNext)) sNext))
theorem ev_tail {LD p : D} {x : Str} {n i : Int} {o : Option Cell} (b : Bd x n i) : Wx evTail [some (.val LD), some (.val p), some (.val (.str x)), some (.val (.int n)), some (.val (.int i)), o] (endQ fun a => a = .inr ⟨"InvalidLogs", m5 x n i⟩) (fun x1 _ => Sum.inr x1 = (Sum.inr ⟨"InvalidLogs", m5 x n i⟩ : D ⊕ Xc)) := by
  have := b.l0; have := b.l1; have := b.l2; have := b.l3; have := b.l4; have := b.l5; have := b.t1; have := b.t2; have := b.c; have := b.xl
  have q0 : (Str.ofString "there is no event at ").length ≤ 16777216 := by omega
  have q1 : (m1 x).length ≤ 16777216 := by omega
  have q2 : (m2 x).length ≤ 16777216 := by omega
  have q3 : (m3 x n).length ≤ 16777216 := by omega
  have q4 : (m4 x n).length ≤ 16777216 := by omega
  have q5 : (m5 x n i).length ≤ 16777216 := by omega
  have qx : x.length ≤ 16777216 := by omega
  have f1 : Str.ofString "there is no event at " ++ x = m1 x := rfl
  have f2 : m1 x ++ Str.ofString ", " = m2 x := rfl
  have f3 : m2 x ++ Str.ofString (toString n) = m3 x n := rfl
  have f4 : m3 x n ++ Str.ofString ", " = m4 x n := rfl
  have f5 : m4 x n ++ Str.ofString (toString i) = m5 x n i := rfl
  unfold evTail
  simp! [b.e, f1, f2, f3, f4, f5, q0, q1, q2, q3, q4, q5, qx, b.g1, b.g2]
theorem ev_no {LD : D} {x : Str} {n i : Int} (b : Bd x n i) (h : Nov LD x n i) : f_event_at [LD, .tuple [.str x, .int n, .int i]] = some (.inr ⟨"InvalidLogs", m5 x n i⟩) := by
  rw [← wo_eq]
  unfold f_event_at
  rw [wo_runX]
  obtain ⟨T, hT⟩ : ∃ T, evTail = T := ⟨_, rfl⟩
  have tail := @ev_tail
  show Wx (xSeq (xOk (sAsg (gVar 1) (gTTup 3 (gTCons (gTN 2) (gTCons (gTN 3) (gTCons (gTN 4) gTNil)))))) (xSeq evHead evTail)) [some (.val LD), some (.val (.tuple [.str x, .int n, .int i])), none, none, none, none] _ _
  rw [hT] at tail ⊢
  unfold evHead
  cases h with
  | nm h0 =>
    simp! [h0]
    exact tail b
  | pt ps h0 h1 hn =>
    have c2 : decide (n < (ps.length : Int)) = false := decide_eq_false (by omega)
    have c3 : ¬ (n < (ps.length : Int)) := by omega
    by_cases c1 : 0 ≤ n
    · simp! [h0, h1, c1, c2, c3]
      exact tail b
    · simp! [h0, h1, c1, c2, c3]
      exact tail b
  | ix ps es h0 h1 hn h2 hi =>
    have c3 : ¬ (i < (es.length : Int)) := by omega
    by_cases c1 : 0 ≤ i
    · simp! [h0, h1, h2, hn.1, hn.2, c1, c3, List.length_map]
      exact tail b
    · simp! [h0, h1, h2, hn.1, hn.2, c1, c3, List.length_map]
      exact tail b
  | mk ps es t h0 h1 hn h2 hi h3 =>
    simp! [h0, h1, h2, h3, hn.1, hn.2, hi.1, hi.2, List.length_map, me]
    exact tail b
theorem ev_ok {LD : D} {x : Str} {n i : Nat} {ps : List D} {es : List Ent} {t : Int} {r : List D} (h0 : inU (.str x) LD = some (.bool true)) (h1 : ixU LD (.str x) = some (.list ps)) (hn : n < ps.length) (h2 : ixA ps (n : Int) = some (.list (es.map entD))) (h3 : es[i]? = some (.ev t r)) : f_event_at [LD, plD (x, n, i)] = some (.inl (entD (.ev t r))) := by
  rw [← wo_eq]
  unfold f_event_at
  rw [wo_runX]
  obtain ⟨T, hT⟩ : ∃ T, evTail = T := ⟨_, rfl⟩
  show Wx (xSeq (xOk (sAsg (gVar 1) (gTTup 3 (gTCons (gTN 2) (gTCons (gTN 3) (gTCons (gTN 4) gTNil)))))) (xSeq evHead evTail)) [some (.val LD), some (.val (.tuple [.str x, .int n, .int i])), none, none, none, none] _ _
  rw [hT]
  unfold evHead
  have hi : i < es.length := (List.getElem?_eq_some_iff.mp h3).1
  have n0 : (0 : Int) ≤ n := by omega
  have i0 : (0 : Int) ≤ i := by omega
  have n1 : (n : Int) < ps.length := by omega
  have i1 : (i : Int) < es.length := by omega
  have e4 : ixA (es.map entD) (i : Int) = some (.tuple [.str "event", .int t, .tuple r]) := by rw [ixA_nat, List.getElem?_map, h3]; rfl
  simp! [h0, h1, h2, e4, n0, n1, i0, i1, List.length_map, entD_ev]
end Lw
set_option maxHeartbeats 4000000
namespace Lw
open PySem Dn Dm DnSo
local macro_rules | `(tactic| simp! [$xs,*]) => `(tactic| simp (maxSteps := 4000000) only [backE, wipeE, wo_some, wo_none, wm_c, wm_var, wm_frz, wm_bin, wm_un, wm_tst, wm_tru, wm_truB, wm_chain, wm_and, wm_or, wm_not, wm_andV, wm_orV, wm_notV, wm_ifE, wm_nil, wm_cons, wm_app, wm_noP, wm_part, wm_sl, wm_pk, wm_io, wm_ix, wm_inB, wm_true, wm_seq, wm_rng1, wm_rng2,
    then_nx, then_ret, then_rof, then_brk, then_cnt, ws_next, ws_brk, ws_cnt, ws_seq, ws_if, ws_ret, ws_rof, ws_drop, ws_set, ws_own, ws_asg, wo_TN, wo_TNil, wo_TCons, wo_TTup, ws_ap, ws_setIx, ws_for, for_nil, turn_nx, turn_cnt, turn_brk, turn_ret, turn_rof, wm_lc, end_ret, end_nx, end_rof, end_io, ownOf_own, valOf_val, frz_val, frz_own, frz_ownD, ixO_l, ixO_d, cOwn_own, peek_val, peek_own, peek_ownD, by_val, by_own, canSet_none, canSet_val, canSet_own, lstOf_list,
    List.getElem?_cons_zero, List.getElem?_cons_succ, List.set_cons_zero, List.set_cons_succ, List.length_cons, List.length_nil, wo_ite, wo_bind, ↓reduceIte, and_true, true_and, and_self, Bool.false_eq_true, Bool.not_true, Bool.not_false, decide_eq_true_eq, decide_true, decide_false, oneInt_int, twoInts_int,
    add_ii, add_ll, add_tt, add_ss, sub_ii, mul_ii, mulS_ii, mod_ii, fdiv_ii, neg_i, le_ii, gt_ii, ge_ii, eqT_ii, eqT_ss, eqT_bb, eqT_nn, ltT_ii, ltT_ss, wo_eqD, wo_neD, wo_ltD, wo_inD, wo_ninD, is_n, isnt_n, is_bb, isnt_bb, isN, bOf_b, iOf_i, tru_b, tru_n, tru_i, tru_l, tru_t, seq_l, seq_t, tup_l, tup_t, lst_l, lst_t, len_l, len_t, int_i, int_b, abs_i, max_ii, min_ii, ix_li, ix_ti, cut_l, cut_t, flat_i, flat_b, flat_s, ix0, ix1, ix2, mkTup, mkLst,
    add2_ll, ws_par3, three_c, ws_grp, empty_own, lOwnD_own, wm_lcW, wm_getD, wm_ind, ix3, ix4, ix_m2, ix_m1, ix_p2, ix_p1, wm_newD, ws_setK, wm_get, wm_ixK, wm_sortN, ws_ext, dOwn_own, lOwn_own, lsD_list, step_nx, step_cnt, step_brk, step_ret, step_rof, wm_reve, rev_l, rev_t, wm_opBL, repr_l, sort_l, sum_l, wm_enum, enum_l, enum_t, enumL_nil, wm_dic, wm_kvn, wm_kvc, seq_s, mulT_si, len_s, ord_c, str_i, ty_d, k_lb, k_li, k_ls, k_tb, k_ti, k_ts, k_db, k_di, k_ds, k_lt, k_tl,
    isi_1, tyOk_n, tyOk_b, tyOk_i, tyOk_s, tyOk_l, tyOk_t, ty_n, ty_b, ty_i, ty_s, ty_l, ty_t, k_nb, k_bb, k_ib, k_sb, k_ni, k_bi, k_ii, k_si, k_ns, k_bs, k_is, k_ss, k_ll, k_tt,
    Int.reduceNeg, Int.reducePow, Int.reduceLT, Int.reduceLE, Int.reduceAdd, Int.reduceSub, Int.reduceMul, Int.reduceToNat, Nat.reduceAdd, Nat.reduceLeDiff, Nat.reduceEqDiff, Int.reduceEq, reduceCtorEq, ws_grpL, empty_ownL, wo_TLst, wg_P, wg_end, wg_then, theng_nx, wg_yield, wm_callG, wo_runG, List.nil_append, wx_okD, wx_okL, wx_okB, wx_okS, wx_cons, wx_call, wx_app, wx_bin, wx_tst, wx_not, wx_ite, thenx_nx, thenx_ret, thenx_rof, thenx_brk, thenx_cnt, wx_seq, wx_if, wx_ret, wx_drop, wx_set, wx_apd, ownL_own, wx_raise, strOf_s, wx_for, ws_noX, wx_tryA, wx_try, retq_ret, either_l, either_r, endq_nx, endq_ret, hL_hd, gL_hd, wo_runX, wx_own, wl_nil, wl_cons, wx_lc, wm_keys, wm_callIOF, wm_fmt, fmt_s, fmt_i, js_s, wm_js0, wm_js, wm_sortU, wm_fT, fT_val, fT_own, ws_newT, txtC_own, ws_newTD, ws_fill, fill_nil, retn_ret, retn_nx, wx_tryN, $xs,*])
mutual
theorem eqv_self : ∀ d : D, smD d = true → PyData.eqv d d = true
  | .none, _ => by simp [PyData.eqv]
  | .bool _, _ => by simp [PyData.eqv]
  | .int _, _ => by simp [PyData.eqv]
  | .str _, _ => by simp [PyData.eqv]
  | .list xs, h => by rw [PyData.eqv]; exact eqv_selfL xs (by simpa [smD] using h)
  | .tuple xs, h => by rw [PyData.eqv]; exact eqv_selfL xs (by simpa [smD] using h)
  | .dict _, h => by simp [smD] at h
theorem eqv_selfL : ∀ ds : List D, smL ds = true → PyData.eqvAll ds ds = true
  | [], _ => rfl
  | d :: ds, h => by
    simp only [smL, Bool.and_eq_true] at h
    rw [PyData.eqvAll, eqv_self d h.1, eqv_selfL ds h.2]
    rfl
end
mutual
theorem unE_sm : ∀ d : D, smD d = true → unE d = d ∧ noN d = true
  | .none, _ => ⟨rfl, rfl⟩
  | .bool _, _ => ⟨rfl, rfl⟩
  | .int _, _ => ⟨rfl, rfl⟩
  | .str _, _ => ⟨rfl, rfl⟩
  | .list xs, h => by
    obtain ⟨h1, h2⟩ := unE_smL xs (by simpa [smD] using h)
    exact ⟨by rw [unE, h1], by rw [noN, h2]⟩
  | .tuple xs, h => by
    obtain ⟨h1, h2⟩ := unE_smL xs (by simpa [smD] using h)
    exact ⟨by rw [unE, h1], by rw [noN, h2]⟩
  | .dict _, h => by simp [smD] at h
theorem unE_smL : ∀ ds : List D, smL ds = true → unAll ds = ds ∧ noNAll ds = true
  | [], _ => ⟨rfl, rfl⟩
  | d :: ds, h => by
    simp only [smL, Bool.and_eq_true] at h
    obtain ⟨h1, h2⟩ := unE_sm d h.1
    obtain ⟨h3, h4⟩ := unE_smL ds h.2
    exact ⟨by rw [unAll, h1, h3], by rw [noNAll, h2, h4]; rfl⟩
end
theorem nO {a b c d e : Option Cell} : notOwn [a, b, c, d, none, e] 4 = true := rfl
theorem eq_two {m : Str} (h : smD (.str m) = true) : eqT (.list [.str m, .str m]) (.list [.str m, .str m]) = some true := by
  have h1 : smD (.list [.str m, .str m]) = true := by
    show smL [.str m, .str m] = true
    rw [smL, smL, h]
    rfl
  have h2 : SeqAt.shaped (.list [.str m, .str m]) = true := shp_sm h1 (by simp [PyData.depth, PyData.depthAll])
  show (if _ then _ else _) = _
  rw [if_pos ⟨h2, h2⟩, eqv_self _ h1]
theorem sp_refused {LD : D} {x : Str} {n i : Int} (b : Bd x n i) (h : Nov LD x n i) : f__law_refused [LD, .tuple [.str x, .int n, .int i]] = some (.bool true) := by
  rw [← wo_eq]
  unfold f__law_refused
  rw [wo_runV]
  show Ws g__law_refused [some (.val LD), some (.val (.tuple [.str x, .int n, .int i])), none, none, none, none] _
  unfold g__law_refused
  have he := ev_no b h
  have := b.l0; have := b.l1; have := b.l2; have := b.l3; have := b.l4; have := b.t1; have := b.t2; have := b.c; have := b.xl
  have a1 : (Str.ofString "there is no event at ").length + x.length ≤ 16777216 := by omega
  have a2 : (m1 x).length + (Str.ofString ", ").length ≤ 16777216 := by omega
  have a3 : (m2 x).length + (Str.ofString (toString n)).length ≤ 16777216 := by show _ + (tI n).length ≤ _; omega
  have a4 : (m3 x n).length + (Str.ofString ", ").length ≤ 16777216 := by omega
  have a5 : (m4 x n).length + (Str.ofString (toString i)).length ≤ 16777216 := by show _ + (tI i).length ≤ _; omega
  have f1 : Str.ofString "there is no event at " ++ x = m1 x := rfl
  have f2 : m1 x ++ Str.ofString ", " = m2 x := rfl
  have f3 : m2 x ++ Str.ofString (toString n) = m3 x n := rfl
  have f4 : m3 x n ++ Str.ofString ", " = m4 x n := rfl
  have f5 : m4 x n ++ Str.ofString (toString i) = m5 x n i := rfl
  simp! [for_cons, only_no he, without_no he, nO, a1, a2, a3, a4, a5, f1, f2, f3, f4, f5, b.g1, b.g2]
  exact ⟨by decide, by decide, by decide, by decide, true, eq_two b.s, rfl⟩
theorem in_s {A B C : List Ent} : inU (.str "s") (lgs A B C) = some (.bool true) := by
  simp [lgs, inU, isKey, dkOk, lkp, keyEq, str_iff]
theorem in_t {A B C : List Ent} : inU (.str "t") (lgs A B C) = some (.bool true) := by
  simp [lgs, inU, isKey, dkOk, lkp, keyEq, str_iff]
theorem in_u {A B C : List Ent} : inU (.str "u") (lgs A B C) = some (.bool false) := by
  simp [lgs, inU, isKey, dkOk, lkp, keyEq, str_iff]
theorem plcs_ok {A B C : List Ent} {q : Pl} (h : q ∈ plcs A B C) (hA : A.length ≤ 10) (hB : B.length ≤ 10) (hC : C.length ≤ 10) : gdP q ∧ ∃ d, f_event_at [lgs A B C, plD q] = some (.inl d) := by
  unfold plcs pls at h
  simp only [List.mem_append, List.mem_map] at h
  rcases h with (⟨i, hi, rfl⟩ | ⟨i, hi, rfl⟩) | ⟨i, hi, rfl⟩
  · obtain ⟨t, r, e⟩ := ont_has hi
    have hl := (List.getElem?_eq_some_iff.mp e).1
    exact ⟨gd_st ("s", 0) (by simp) i (by omega), _, ev_ok in_s lg_s (by simp) (by rfl) e⟩
  · obtain ⟨t, r, e⟩ := ont_has hi
    have hl := (List.getElem?_eq_some_iff.mp e).1
    exact ⟨gd_st ("s", 1) (by simp) i (by omega), _, ev_ok in_s lg_s (by simp) (by rfl) e⟩
  · obtain ⟨t, r, e⟩ := ont_has hi
    have hl := (List.getElem?_eq_some_iff.mp e).1
    exact ⟨gd_st ("t", 0) (by simp) i (by omega), _, ev_ok in_t lg_t (by simp) (by rfl) e⟩
def goodF : Ent → Prop
  | .mk t => 0 ≤ t ∧ t ≤ 5
  | .ev t r => (0 ≤ t ∧ t ≤ 8) ∧ ∃ v u, r = [v, u] ∧ (smD v = true ∧ v.depth = 0 ∧ nodes v = 1) ∧ smD u = true ∧ u.depth = 0 ∧ nodes u = 1
theorem val1 : ∀ y ∈ [(.str "p" : D), .str "q", .none, .str "p"], smD y = true ∧ y.depth = 0 ∧ nodes y = 1 := by
  intro y hy
  simp only [List.mem_cons, List.not_mem_nil, or_false] at hy
  rcases hy with rfl | rfl | rfl | rfl <;> exact ⟨by decide +kernel, rfl, rfl⟩
theorem val2 : ∀ y ∈ [(.int 0 : D), .int 1, .int 2, .none, .int 1], smD y = true ∧ y.depth = 0 ∧ nodes y = 1 := by
  intro y hy
  simp only [List.mem_cons, List.not_mem_nil, or_false] at hy
  rcases hy with rfl | rfl | rfl | rfl | rfl <;> exact ⟨by decide +kernel, rfl, rfl⟩
theorem wo_entries {n many : Int} {Q : D × D → Prop} (hm : 0 ≤ many ∧ many ≤ 10) (q : ∀ (es : List Ent) n', es.length = many.toNat → (∀ e ∈ es, goodF e) → Q (.list (es.map entD), .list [.int n'])) : Wo (f__law_entries (.list [.int n]) [.int many]) Q := by
  unfold f__law_entries
  rw [wo_runIO]
  show Ws g__law_entries [some (.own true (.list [.int n])), some (.val (.int many)), none, none, none] _
  unfold g__law_entries
  simp! []
  rw [if_pos (by unfold small62; exact decide_eq_true ⟨by omega, by omega⟩), rng_map]
  refine ws_forA (fun i : Nat => PyData.int i) (fun p ρ => ∃ (n' : Int) (es : List Ent) (o3 o4 : Option Cell), (canSet (some o3) = some () ∧ canSet (some o4) = some ()) ∧ (es.length = p.length ∧ ∀ e ∈ es, goodF e) ∧ ρ = [some (.own true (.list [.int n'])), some (.val (.int many)), some (.own false (.list (es.map entD))), o3, o4]) ⟨n, [], none, none, ⟨rfl, rfl⟩, ⟨rfl, by simp⟩, rfl⟩ ?_ ?_
  · rintro p i r ρ e ⟨n', es, o3, o4, ⟨h3, h4⟩, ⟨hml, hms⟩, rfl⟩
    obtain ⟨e1, e2⟩ := rng_split e
    have hadd : ∀ x : Ent, goodF x → ∀ y ∈ es ++ [x], goodF y := fun x hx y hy => by
      rcases List.mem_append.mp hy with h | h
      · exact hms y h
      · rw [List.mem_singleton.mp h]
        exact hx
    simp! [h3, h4, sp_digit]
    split
    · exact ⟨by rw [List.length_map]; omega, _, es ++ [.mk (n' / 6 % 6)], some (.val (.int i)), o4, ⟨rfl, h4⟩, ⟨by simp [hml], hadd (.mk _) ⟨by omega, by omega⟩⟩, by rw [List.map_append]; rfl⟩
    · refine wo_ix (by omega) (by simp only [List.length_cons, List.length_nil]; omega) fun y hy => ?_
      refine wo_ix (by omega) (by simp only [List.length_cons, List.length_nil]; omega) fun z hz => ?_
      exact ⟨by rw [List.length_map]; omega, _, es ++ [.ev (n' / 6 / 4 / 5 % 9) [y, z]], some (.val (.int i)), some (.val (.tuple [y, z])), ⟨rfl, rfl⟩, ⟨by simp [hml], hadd (.ev _ _) ⟨⟨by omega, by omega⟩, y, z, rfl, val1 y hy, val2 z hz⟩⟩, by rw [List.map_append]; rfl⟩
  · rintro ρ' ⟨n', es, o3, o4, ⟨h3, h4⟩, ⟨hml, hms⟩, rfl⟩
    simp! []
    refine q es n' ?_ hms
    rw [hml, List.length_range]
end Lw
set_option maxHeartbeats 4000000
namespace Lw
open PySem Dn Dm DnSo
local macro_rules | `(tactic| simp! [$xs,*]) => `(tactic| simp (maxSteps := 4000000) only [backE, wipeE, wo_some, wo_none, wm_c, wm_var, wm_frz, wm_bin, wm_un, wm_tst, wm_tru, wm_truB, wm_chain, wm_and, wm_or, wm_not, wm_andV, wm_orV, wm_notV, wm_ifE, wm_nil, wm_cons, wm_app, wm_noP, wm_part, wm_sl, wm_pk, wm_io, wm_ix, wm_inB, wm_true, wm_seq, wm_rng1, wm_rng2,
    then_nx, then_ret, then_rof, then_brk, then_cnt, ws_next, ws_brk, ws_cnt, ws_seq, ws_if, ws_ret, ws_rof, ws_drop, ws_set, ws_own, ws_asg, wo_TN, wo_TNil, wo_TCons, wo_TTup, ws_ap, ws_setIx, ws_for, for_nil, turn_nx, turn_cnt, turn_brk, turn_ret, turn_rof, wm_lc, end_ret, end_nx, end_rof, end_io, ownOf_own, valOf_val, frz_val, frz_own, frz_ownD, ixO_l, ixO_d, cOwn_own, peek_val, peek_own, peek_ownD, by_val, by_own, canSet_none, canSet_val, canSet_own, lstOf_list,
    List.getElem?_cons_zero, List.getElem?_cons_succ, List.set_cons_zero, List.set_cons_succ, List.length_cons, List.length_nil, wo_ite, wo_bind, ↓reduceIte, and_true, true_and, and_self, Bool.false_eq_true, Bool.not_true, Bool.not_false, decide_eq_true_eq, decide_true, decide_false, oneInt_int, twoInts_int,
    add_ii, add_ll, add_tt, add_ss, sub_ii, mul_ii, mulS_ii, mod_ii, fdiv_ii, neg_i, le_ii, gt_ii, ge_ii, eqT_ii, eqT_ss, eqT_bb, eqT_nn, ltT_ii, ltT_ss, wo_eqD, wo_neD, wo_ltD, wo_inD, wo_ninD, is_n, isnt_n, is_bb, isnt_bb, isN, bOf_b, iOf_i, tru_b, tru_n, tru_i, tru_l, tru_t, seq_l, seq_t, tup_l, tup_t, lst_l, lst_t, len_l, len_t, int_i, int_b, abs_i, max_ii, min_ii, ix_li, ix_ti, cut_l, cut_t, flat_i, flat_b, flat_s, ix0, ix1, ix2, mkTup, mkLst,
    add2_ll, ws_par3, three_c, ws_grp, empty_own, lOwnD_own, wm_lcW, wm_getD, wm_ind, ix3, ix4, ix_m2, ix_m1, ix_p2, ix_p1, wm_newD, ws_setK, wm_get, wm_ixK, wm_sortN, ws_ext, dOwn_own, lOwn_own, lsD_list, step_nx, step_cnt, step_brk, step_ret, step_rof, wm_reve, rev_l, rev_t, wm_opBL, repr_l, sort_l, sum_l, wm_enum, enum_l, enum_t, enumL_nil, wm_dic, wm_kvn, wm_kvc, seq_s, mulT_si, len_s, ord_c, str_i, ty_d, k_lb, k_li, k_ls, k_tb, k_ti, k_ts, k_db, k_di, k_ds, k_lt, k_tl,
    isi_1, tyOk_n, tyOk_b, tyOk_i, tyOk_s, tyOk_l, tyOk_t, ty_n, ty_b, ty_i, ty_s, ty_l, ty_t, k_nb, k_bb, k_ib, k_sb, k_ni, k_bi, k_ii, k_si, k_ns, k_bs, k_is, k_ss, k_ll, k_tt,
    Int.reduceNeg, Int.reducePow, Int.reduceLT, Int.reduceLE, Int.reduceAdd, Int.reduceSub, Int.reduceMul, Int.reduceToNat, Nat.reduceAdd, Nat.reduceLeDiff, Nat.reduceEqDiff, Int.reduceEq, reduceCtorEq, ws_grpL, empty_ownL, wo_TLst, wg_P, wg_end, wg_then, theng_nx, wg_yield, wm_callG, wo_runG, List.nil_append, wx_okD, wx_okL, wx_okB, wx_okS, wx_cons, wx_call, wx_app, wx_bin, wx_tst, wx_not, wx_ite, thenx_nx, thenx_ret, thenx_rof, thenx_brk, thenx_cnt, wx_seq, wx_if, wx_ret, wx_drop, wx_set, wx_apd, ownL_own, wx_raise, strOf_s, wx_for, ws_noX, wx_tryA, wx_try, retq_ret, either_l, either_r, endq_nx, endq_ret, hL_hd, gL_hd, wo_runX, wx_own, wl_nil, wl_cons, wx_lc, wm_keys, wm_callIOF, wm_fmt, fmt_s, fmt_i, js_s, wm_js0, wm_js, wm_sortU, wm_fT, fT_val, fT_own, ws_newT, txtC_own, ws_newTD, ws_fill, fill_nil, retn_ret, retn_nx, wx_tryN, $xs,*])
theorem ent_sm {e : Ent} (h : goodF e) : smD (entD e) = true ∧ (entD e).depth ≤ 2 ∧ nodes (entD e) ≤ 20 := by
  have sme : smD (.str "event") = true := by decide +kernel
  have smm : smD (.str "mark") = true := by decide +kernel
  cases e with
  | mk t =>
    have h : 0 ≤ t ∧ t ≤ 5 := h
    have a1 : t.natAbs < 1000000000000 := by omega
    have a2 : smD (.int t) = true := decide_eq_true a1
    refine ⟨?_, by simp [entD, PyData.depth, PyData.depthAll], by simp [entD, nodes, nodesL]⟩
    show smL [.str "mark", .int t] = true
    rw [smL, smL, smL, smm, a2]
    rfl
  | ev t r =>
    obtain ⟨ht, v, u, rfl, ⟨v1, v2, v3⟩, u1, u2, u3⟩ := h
    have a1 : t.natAbs < 1000000000000 := by omega
    have a2 : smD (.int t) = true := decide_eq_true a1
    refine ⟨?_, by simp [entD, PyData.depth, PyData.depthAll, v2, u2], by simp [entD, nodes, nodesL, v3, u3]⟩
    show smL [.str "event", .int t, .tuple [v, u]] = true
    have a3 : smD (.tuple [v, u]) = true := by
      show smL [v, u] = true
      rw [smL, smL, smL, v1, u1]
      rfl
    rw [smL, smL, smL, smL, sme, a2, a3]
    rfl
theorem ents_sm {es : List Ent} (h : ∀ e ∈ es, goodF e) (hl : es.length ≤ 10) : smD (.list (es.map entD)) = true ∧ PyData.depth (.list (es.map entD)) ≤ 3 ∧ nodes (.list (es.map entD)) ≤ 210 := by
  refine ⟨?_, ?_, ?_⟩
  · show smL _ = true
    exact smL_map fun m hm => (ent_sm (h m hm)).1
  · show PyData.depthAll _ + 1 ≤ 3
    have := depthL_map (f := entD) (xs := es) (n := 2) fun m hm => (ent_sm (h m hm)).2.1
    omega
  · show nodesL _ ≤ _
    have := nodesL_map (f := entD) (xs := es) (n := 20) fun m hm => (ent_sm (h m hm)).2.2
    omega
structure Dr (A B C : List Ent) : Prop where
  a : ∀ e ∈ A, goodF e
  b : ∀ e ∈ B, goodF e
  c : ∀ e ∈ C, goodF e
  la : A.length ≤ 10
  lb : B.length ≤ 10
  lc : C.length ≤ 10
theorem dr_kp {A B C : List Ent} {P : List Pl} {w : Bool} (d : Dr A B C) : Dr (kp P w "s" 0 A) (kp P w "s" 1 B) (kp P w "t" 0 C) :=
  ⟨fun e h => d.a e (kp_mem h), fun e h => d.b e (kp_mem h), fun e h => d.c e (kp_mem h), Nat.le_trans (kp_len _ _ _ _ _) d.la, Nat.le_trans (kp_len _ _ _ _ _) d.lb, Nat.le_trans (kp_len _ _ _ _ _) d.lc⟩
theorem dr_sm {A B C : List Ent} (d : Dr A B C) : (smD (.list [.list (A.map entD), .list (B.map entD)]) = true ∧ PyData.depth (.list [.list (A.map entD), .list (B.map entD)]) ≤ 4 ∧ nodes (.list [.list (A.map entD), .list (B.map entD)]) ≤ 450) ∧ smD (.list [.list (C.map entD)]) = true ∧ PyData.depth (.list [.list (C.map entD)]) ≤ 4 ∧ nodes (.list [.list (C.map entD)]) ≤ 450 := by
  obtain ⟨a1, a2, a3⟩ := ents_sm d.a d.la
  obtain ⟨b1, b2, b3⟩ := ents_sm d.b d.lb
  obtain ⟨c1, c2, c3⟩ := ents_sm d.c d.lc
  refine ⟨⟨?_, ?_, ?_⟩, ?_, ?_, ?_⟩
  · show smL [_, _] = true
    rw [smL, smL, smL, a1, b1]
    rfl
  · show PyData.depthAll [_, _] + 1 ≤ 4
    rw [PyData.depthAll, PyData.depthAll, PyData.depthAll]
    omega
  · show nodesL [_, _] ≤ _
    rw [nodesL, nodesL, nodesL]
    omega
  · show smL [_] = true
    rw [smL, smL, c1]
    rfl
  · show PyData.depthAll [_] + 1 ≤ 4
    rw [PyData.depthAll, PyData.depthAll]
    omega
  · show nodesL [_] ≤ _
    rw [nodesL, nodesL]
    omega
theorem kst : smD (.str "s") = true ∧ smD (.str "t") = true := by decide +kernel
theorem repr_dc {v u : D} (hv : smD v = true) (hu : smD u = true) (d1 : v.depth ≤ 4) (d2 : u.depth ≤ 4) (n1 : nodes v ≤ 450) (n2 : nodes u ≤ 450) : ∃ z : Str, reprFU [.dict [(.str "s", v), (.str "t", u)]] = some (.str z) := by
  obtain ⟨v1, v2⟩ := unE_sm _ hv
  obtain ⟨u1, u2⟩ := unE_sm _ hu
  obtain ⟨_, s2, s3, s4⟩ := sm_ok _ hv
  obtain ⟨_, t2, t3, t4⟩ := sm_ok _ hu
  obtain ⟨_, p2, p3, p4⟩ := sm_ok _ kst.1
  obtain ⟨_, q2, q3, q4⟩ := sm_ok _ kst.2
  have kn : nodes (.str "s") = 1 := rfl
  have kn2 : nodes (.str "t") = 1 := rfl
  have kd0 : (PyData.str "s").depth = 0 := rfl
  have kd1 : (PyData.str "t").depth = 0 := rfl
  have uk : unKV [((.str "s" : D), v), (.str "t", u)] = [(.str "s", v), (.str "t", u)] := by rw [unKV, unKV, unKV, v1, u1]
  have nk : noNKV [((.str "s" : D), v), (.str "t", u)] = true := by rw [noNKV, noNKV, noNKV, v2, u2]; rfl
  have uu : unE (.dict [(.str "s", v), (.str "t", u)]) = .dict [(.str "s", v), (.str "t", u)] := by
    unfold unE
    rw [uk]
  have ok : reprOkU (.dict [(.str "s", v), (.str "t", u)]) = true := by
    unfold reprOkU
    rw [uu]
    simp only [Bool.and_eq_true, decide_eq_true_eq]
    refine ⟨⟨⟨⟨?_, ?_⟩, ?_⟩, ?_⟩, ?_⟩
    · rw [noN, nk]; simp [dkOk, isKey]
    · simp only [PyData.depth, PyData.depthKv]; omega
    · rw [PyData.showable, PyData.showableKv, PyData.showableKv, PyData.showableKv, p2, q2, s2, t2]; rfl
    · rw [PyData.leavesShort, PyData.leavesShortKv, PyData.leavesShortKv, PyData.leavesShortKv, p3, q3, s3, t3]; rfl
    · rw [PyData.weight, PyData.weightKv, PyData.weightKv, PyData.weightKv]; omega
  exact ⟨_, if_pos ok⟩
theorem repr_lg {A B C : List Ent} (d : Dr A B C) : ∃ z : Str, reprFU [lgs A B C] = some (.str z) := by
  obtain ⟨⟨a1, a2, a3⟩, c1, c2, c3⟩ := dr_sm d
  exact repr_dc a1 c1 a2 c2 a3 c3
theorem ne_lg {A B C : List Ent} (d : Dr A B C) : neDU (lgs A B C) (lgs A B C) = some (.bool false) := by
  obtain ⟨⟨a1, a2, a3⟩, c1, c2, c3⟩ := dr_sm d
  have e1 := eqv_self _ a1
  have e2 := eqv_self _ c1
  have s1 := shp_sm a1 (by omega)
  have s2 := shp_sm c1 (by omega)
  unfold lgs
  generalize PyData.list [.list (A.map entD), .list (B.map entD)] = v at *
  generalize PyData.list [.list (C.map entD)] = u at *
  have h : dicSh [(.str "s", v), (.str "t", u)] = true := by simp [dicSh, isKey, s1, s2]
  show (if dicSh [(.str "s", v), (.str "t", u)] = true ∧ dicSh [(.str "s", v), (.str "t", u)] = true then some (PyData.bool (!eqU2 [(.str "s", v), (.str "t", u)] [(.str "s", v), (.str "t", u)])) else none) = _
  rw [if_pos ⟨h, h⟩]
  simp [eqU2, eqKV, lkp, keyEq, str_iff, e1, e2]
theorem wo_logs {ns : List Int} {k : Int} {Q : D → Prop} (hk : 0 ≤ k ∧ k ≤ 100) (q : ∀ (A B C : List Ent) (row : Int), Dr A B C → C.length = 4 → A.length = 4 → B.length = 2 → Q (.tuple [lgs A B C, .int row])) : Wo (f__law_logs [.list (ns.map PyData.int), .int k]) Q := by
  unfold f__law_logs
  rw [wo_runV]
  show Ws g__law_logs [some (.val (.list (ns.map PyData.int))), some (.val (.int k)), none, none] _
  unfold g__law_logs
  have hl : (Int.natAbs 2).log2 + k.natAbs.log2 < 1000000 := by
    have h1 : k.natAbs.log2 ≤ k.natAbs := Nat.log2_le_self _
    have h2 : (Int.natAbs 2).log2 = 1 := by decide
    omega
  have ks : ∀ v : D, keysOk [((.str "s" : D), v)] = true := fun v => (keysOk_of (es := [((.str "s" : D), v)]) (fs := [(.str "s", .none)]) rfl).trans (by decide +kernel)
  simp! [hl, ks]
  refine wo_cell (by omega) fun c => ?_
  refine wo_start fun s => ?_
  refine wo_entries (by omega) fun A n1 la ga => ?_
  refine wo_entries (by omega) fun B n2 lb gb => ?_
  try simp! [hl, ks]
  refine wo_cell (by omega) fun c => ?_
  refine wo_start fun s => ?_
  try simp! [hl]
  refine setT_w ?_
  try simp! [hl]
  refine wo_entries (by omega) fun C n3 lc gc => ?_
  try simp! [hl]
  refine ⟨⟨_, _, rfl⟩, _, rfl, rfl, by simp, ?_⟩
  rw [put_t]
  try simp! [sp_digit]
  exact q A B C _ ⟨ga, gb, gc, by omega, by omega, by omega⟩ (by omega) (by omega) (by omega)
theorem eq_pls {P : List Pl} (h : ∀ q ∈ P, gdP q) : eqT (.list (P.map plD)) (.list (P.map plD)) = some true := by
  have h1 : smD (.list (P.map plD)) = true := by
    show smL _ = true
    exact smL_map fun p hp => h p hp
  have h2 := sh_pls h
  show (if _ then _ else _) = _
  rw [if_pos ⟨h2, h2⟩, eqv_self _ h1]
theorem nor_l {f : List D → Option (D ⊕ Xc)} {xs : List D} {d : D} (h : f xs = some (.inl d)) : noR f xs = some d := by
  unfold noR
  rw [h]
theorem pow4 (j : Nat) : ∃ c : Int, ixA [(.int 1 : D), .int 2, .int 4, .int 8] ((j : Int) % 4) = some (.int c) ∧ 0 < c ∧ c < 18446744073709551616 := by
  have h : (j : Int) % 4 = 0 ∨ (j : Int) % 4 = 1 ∨ (j : Int) % 4 = 2 ∨ (j : Int) % 4 = 3 := by omega
  rcases h with h | h | h | h <;> rw [h]
  · exact ⟨1, rfl, by decide, by decide⟩
  · exact ⟨2, rfl, by decide, by decide⟩
  · exact ⟨4, rfl, by decide, by decide⟩
  · exact ⟨8, rfl, by decide, by decide⟩
def isSet (row : Int) (j : Nat) : Bool := match ixA [(.int 1 : D), .int 2, .int 4, .int 8] ((j : Int) % 4) with
  | some (.int c) => decide (row / c % 2 = 1)
  | _ => false
def someOf (P : List Pl) (row : Int) : List Pl := ((List.range P.length).filter (isSet row)).map fun j => P.getD j ("s", 0, 0)
theorem some_mem {P : List Pl} {row : Int} {q : Pl} (h : q ∈ someOf P row) : q ∈ P := by
  unfold someOf at h
  obtain ⟨j, hj, rfl⟩ := List.mem_map.mp h
  have hl := List.mem_range.mp (List.mem_filter.mp hj).1
  rw [List.getD_eq_getElem?_getD, List.getElem?_eq_getElem hl]
  exact List.getElem_mem hl
def chosenBody : Sd := (sSeq (sIf (gTst (gBin neDU (gApp (noR f_only_these) (gCons (gVar 2) (gCons (gVar 7) gNil))) (gApp f__law_left (gCons (gVar 2) (gCons (gVar 7) (gCons (gC (.bool true)) gNil)))))) (sRet (gC (.bool false))) sNext)
  (sIf (gTst (gBin neDU (gApp (noR f_without_these) (gCons (gVar 2) (gCons (gVar 7) gNil))) (gApp f__law_left (gCons (gVar 2) (gCons (gVar 7) (gCons (gC (.bool false)) gNil)))))) (sRet (gC (.bool false))) sNext))
def chosenFor : Sd := (sFor (gSeq (gApp mkLst (gCons (gVar 5) (gCons (gApp mkLst gNil) (gCons (gFrz 6) gNil))))) (gTN 7)
  chosenBody)
def lawTail : Sd := (sSeq (sFor (gSeq (gApp mkLst (gCons (gApp mkTup (gCons (gC (.str "s")) (gCons (gC (.int 0)) (gCons (gC (.int 9)) gNil)))) (gCons (gApp mkTup (gCons (gC (.str "s")) (gCons (gC (.int 2)) (gCons (gC (.int 0)) gNil)))) (gCons (gApp mkTup (gCons (gC (.str "u")) (gCons (gC (.int 0)) (gCons (gC (.int 0)) gNil)))) (gCons (gApp mkTup (gCons (gC (.str "t")) (gCons (gC (.int 1)) (gCons (gC (.int 1)) gNil)))) gNil)))))) (gTTup 3 (gTCons (gTN 8) (gTCons (gTN 9) (gTCons (gTN 10) gTNil))))
  (sIf (gNot (gTru (gApp f__law_refused (gCons (gVar 2) (gCons (gApp mkTup (gCons (gVar 8) (gCons (gVar 9) (gCons (gVar 10) gNil)))) gNil))))) (sRet (gC (.bool false))) sNext))
  (sSeq (sFor (gRng1 (gCons (gApp lenF (gCons (gBin ixD (gBin ixU (gVar 2) (gC (.str "t"))) (gC (.int 0))) gNil)) gNil)) (gTN 10)
  (sIf (gAnd (gTst (gBin eqD (gBin ixD (gBin ixD (gBin ixD (gBin ixU (gVar 2) (gC (.str "t"))) (gC (.int 0))) (gVar 10)) (gC (.int 0))) (gC (.str "mark")))) (gNot (gTru (gApp f__law_refused (gCons (gVar 2) (gCons (gApp mkTup (gCons (gC (.str "t")) (gCons (gC (.int 0)) (gCons (gVar 10) gNil)))) gNil)))))) (sRet (gC (.bool false))) sNext))
  (sIf (gTst (gBin neD (gApp reprFU (gCons (gVar 2) gNil)) (gVar 4))) (sRet (gC (.bool false))) sNext)))
theorem tail_ok {A B C : List Ent} {z : Str} {w0 w1 w3 w5 w6 w7 o8 o9 o10 w11 : Option Cell} {R : Fl → Dn.Env → Prop} (lc : C.length = 4) (la : A.length = 4) (hz : reprFU [lgs A B C] = some (.str z)) (c8 : canSet (some o8) = some ()) (c9 : canSet (some o9) = some ()) (c10 : canSet (some o10) = some ())
    (k : ∀ o8 o9 o10 : Option Cell, canSet (some o8) = some () → canSet (some o9) = some () → canSet (some o10) = some () → R .nx [w0, w1, some (.val (lgs A B C)), w3, some (.val (.str z)), w5, w6, w7, o8, o9, o10, w11]) : Ws lawTail [w0, w1, some (.val (lgs A B C)), w3, some (.val (.str z)), w5, w6, w7, o8, o9, o10, w11] R := by
  have r1 : f__law_refused [lgs A B C, .tuple [.str "s", .int 0, .int 9]] = some (.bool true) := sp_refused (bad_bd (by simp [bads])) (.ix _ A in_s lg_s ⟨by decide, by simp⟩ (by rfl) (by omega))
  have r2 : f__law_refused [lgs A B C, .tuple [.str "s", .int 2, .int 0]] = some (.bool true) := sp_refused (bad_bd (by simp [bads])) (.pt _ in_s lg_s (by simp))
  have r3 : f__law_refused [lgs A B C, .tuple [.str "u", .int 0, .int 0]] = some (.bool true) := sp_refused (bad_bd (by simp [bads])) (.nm in_u)
  have r4 : f__law_refused [lgs A B C, .tuple [.str "t", .int 1, .int 1]] = some (.bool true) := sp_refused (bad_bd (by simp [bads])) (.pt _ in_t lg_t (by simp))
  unfold lawTail
  simp! [for_cons, r1, r2, r3, r4, c8, c9, c10, lg_t, List.length_map]
  rw [if_pos (small_nat (by omega)), Int.toNat_natCast, rng_map]
  refine ws_forA (fun i : Nat => PyData.int i) (fun _ ρ => ∃ (o8 o9 o10 : Option Cell), (canSet (some o8) = some () ∧ canSet (some o9) = some () ∧ canSet (some o10) = some ()) ∧ ρ = [w0, w1, some (.val (lgs A B C)), w3, some (.val (.str z)), w5, w6, w7, o8, o9, o10, w11]) ⟨_, _, _, ⟨?_, ?_, ?_⟩, rfl⟩ ?_ ?_
  · rfl
  · rfl
  · rfl
  · rintro p i s ρ e ⟨o8, o9, o10, ⟨h8, h9, h10⟩, rfl⟩
    obtain ⟨_, e2⟩ := rng_split e
    have e3 : C[i]? = some C[i] := List.getElem?_eq_getElem e2
    have e4 : ixA (C.map entD) (i : Int) = some (entD C[i]) := by rw [ixA_nat, List.getElem?_map, e3]; rfl
    generalize C[i] = y at e4
    cases y with
    | mk t =>
      rw [entD_mk] at e4
      have hb : ((Str.ofString "t"), (0 : Int), (i : Int)) ∈ bads := by
        have h4 : i < 4 := by omega
        match i, h4 with
        | 0, _ => simp [bads]
        | 1, _ => simp [bads]
        | 2, _ => simp [bads]
        | 3, _ => simp [bads]
      have r5 : f__law_refused [lgs A B C, .tuple [.str "t", .int 0, .int i]] = some (.bool true) := sp_refused (bad_bd hb) (.mk _ C t in_t lg_t ⟨by decide, by simp⟩ (by rfl) ⟨by omega, by omega⟩ e4)
      simp! [h10, lg_t, e4, r5]
      exact ⟨_, _, _, ⟨h8, h9, rfl⟩, rfl⟩
    | ev t r =>
      rw [entD_ev] at e4
      simp! [h10, lg_t, e4, em]
      exact ⟨_, _, _, ⟨h8, h9, rfl⟩, rfl⟩
  · rintro ρ' ⟨o8, o9, o10, ⟨h8, h9, h10⟩, rfl⟩
    simp! [hz]
    exact k _ _ _ h8 h9 h10
theorem chosen_one {LD v row z PD o6 o8 o9 o10 o11 : Option Cell} {lg P l1 l2 : D} {R : Fl → Dn.Env → Prop}
    (a1 : noR f_only_these [lg, P] = some l1) (a2 : f__law_left [lg, P, .bool true] = some l1) (b1 : noR f_without_these [lg, P] = some l2) (b2 : f__law_left [lg, P, .bool false] = some l2) (n1 : neDU l1 l1 = some (.bool false)) (n2 : neDU l2 l2 = some (.bool false))
    (q : R .nx [v, row, some (.val lg), z, PD, o6, o8, some (.val P), o9, o10, o11, LD]) : Ws chosenBody [v, row, some (.val lg), z, PD, o6, o8, some (.val P), o9, o10, o11, LD] R := by
  unfold chosenBody
  simp! [a1, a2, b1, b2, n1, n2]
  exact q
theorem law_true : ∀ ns : List Int, ns.length ≤ 63 → f_law [.list (ns.map PyData.int)] = some (.bool true) := by
  intro ns hns
  rw [← wo_eq]
  unfold f_law
  rw [wo_runV]
  show Ws g_law [some (.val (.list (ns.map PyData.int))), none, none, none, none, none, none, none, none, none, none, none] _
  obtain ⟨T1, hT1⟩ : ∃ T1, chosenFor = T1 := ⟨_, rfl⟩
  obtain ⟨T2, hT2⟩ : ∃ T2, lawTail = T2 := ⟨_, rfl⟩
  show Ws (sSeq (sFor (gRng1 (gCons (gApp minF (gCons (gC (.int 8)) (gCons (gApp maxF (gCons (gC (.int 1)) (gCons (gBin fdivD (gApp lenF (gCons (gVar 0) gNil)) (gC (.int 2))) gNil))) gNil))) gNil)) (gTN 1)
  (sSeq (sAsg (gApp f__law_logs (gCons (gVar 0) (gCons (gVar 1) gNil))) (gTTup 2 (gTCons (gTN 2) (gTCons (gTN 3) gTNil))))
  (sSeq (sSet 4 (gApp reprFU (gCons (gVar 2) gNil)))
  (sSeq (sSet 5 (gApp f__law_on_time (gCons (gVar 2) gNil)))
  (sSeq (sIf (gTst (gBin neD (gApp f_events_of (gCons (gVar 2) gNil)) (gVar 5))) (sRet (gC (.bool false))) sNext)
  (sSeq (sOwn 6 (gLc [11] (gRng1 (gCons (gApp lenF (gCons (gVar 5) gNil)) gNil)) (gTN 11) (gTst (gBin eqD (gBin modD (gBin fdivD (gVar 3) (gBin ixD (gApp mkLst (gCons (gC (.int 1)) (gCons (gC (.int 2)) (gCons (gC (.int 4)) (gCons (gC (.int 8)) gNil))))) (gBin modD (gVar 11) (gC (.int 4))))) (gC (.int 2))) (gC (.int 1)))) (gBin ixD (gVar 5) (gVar 11))))
  (sSeq chosenFor
  lawTail)))))))
  (sRet (gC (.bool true)))) _ _
  rw [hT1, hT2]
  simp! [List.length_map]
  have ed : ((ns.length : Int) / 2) = ((ns.length / 2 : Nat) : Int) := by omega
  rw [ed]
  obtain ⟨n, hn, hn8⟩ := times (l := ns.length / 2) (m := 8) (M := 8) rfl (by decide)
  rw [hn, if_pos (small_nat (by omega)), Int.toNat_natCast, rng_map]
  refine ws_forA (fun i : Nat => PyData.int i) (fun p ρ => ∃ (o1 o2 o3 o4 o5 o6 o7 o8 o9 o10 : Option Cell), (canSet (some o1) = some () ∧ canSet (some o2) = some () ∧ canSet (some o3) = some () ∧ canSet (some o4) = some () ∧ canSet (some o5) = some () ∧ canSet (some o6) = some () ∧ canSet (some o7) = some () ∧ canSet (some o8) = some () ∧ canSet (some o9) = some () ∧ canSet (some o10) = some ()) ∧ ρ = [some (.val (.list (ns.map PyData.int))), o1, o2, o3, o4, o5, o6, o7, o8, o9, o10, none]) ⟨none, none, none, none, none, none, none, none, none, none, ⟨rfl, rfl, rfl, rfl, rfl, rfl, rfl, rfl, rfl, rfl⟩, rfl⟩ ?_ ?_
  · rintro p i r ρ e ⟨o1, o2, o3, o4, o5, o6, o7, o8, o9, o10, ⟨h1, h2, h3, h4, h5, h6, h7, h8, h9, h10⟩, rfl⟩
    obtain ⟨_, hi⟩ := rng_split e
    simp! [h1]
    refine wo_logs ⟨by omega, by omega⟩ fun A B C row dr lc la lb => ?_
    obtain ⟨z, hz⟩ := repr_lg dr
    have hP : ∀ q ∈ plcs A B C, gdP q ∧ ∃ d, f_event_at [lgs A B C, plD q] = some (.inl d) := fun q hq => plcs_ok hq dr.la dr.lb dr.lc
    have hot := sp_on_time dr.la dr.lb dr.lc
    have hev := sp_events_of dr.la dr.lb dr.lc
    have hpl : (plcs A B C).length ≤ 30 := by
      unfold plcs
      have l1 := pls_len "s" 0 A
      have l2 := pls_len "s" 1 B
      have l3 := pls_len "t" 0 C
      rw [List.length_append, List.length_append]
      omega
    generalize plcs A B C = P at hP hot hev hpl
    have hgd : ∀ q ∈ P, gdP q := fun q hq => (hP q hq).1
    have hq1 := eq_pls hgd
    simp! [h2, h3, h4, h5, hz, hot, hev, hq1, List.length_map]
    rw [if_pos (small_nat (by omega)), Int.toNat_natCast, rng_map]
    refine ⟨⟨by rw [List.length_map, List.length_range]; omega, rfl⟩, ?_⟩
    refine lc_filterA (fun i : Nat => PyData.int i) (fun j : Nat => plD (P.getD j ("s", 0, 0))) (isSet row) _ (fun j hj => ?_) ?_
    · have hjl := List.mem_range.mp hj
      obtain ⟨c, hc, hc0, hc1⟩ := pow4 j
      have he : ixA (P.map plD) (j : Int) = some (plD (P.getD j ("s", 0, 0))) := by
        rw [ixA_nat, List.getElem?_map, List.getD_eq_getElem?_getD, List.getElem?_eq_getElem hjl]
        rfl
      have hs : isSet row j = decide (row / c % 2 = 1) := by
        unfold isSet
        rw [hc]
      rw [hs]
      simp! [hc, he, hc0, hc1]
      exact ⟨fun _ => trivial, fun _ => trivial⟩
    · have es : ((List.range P.length).filter (isSet row)).map (fun j : Nat => plD (P.getD j ("s", 0, 0))) = (someOf P row).map plD := by
        unfold someOf
        rw [List.map_map]
        rfl
      rw [es]
      have hsm : ∀ q ∈ someOf P row, q ∈ P := fun q hq => some_mem hq
      generalize someOf P row = S at hsm
      have g1 : Gd A B C P := ⟨dr.la, dr.lb, dr.lc, hgd⟩
      have g2 : Gd A B C [] := ⟨dr.la, dr.lb, dr.lc, by simp⟩
      have g3 : Gd A B C S := ⟨dr.la, dr.lb, dr.lc, fun q hq => hgd q (hsm q hq)⟩
      have v1 := fun q hq => (hP q hq).2
      have v3 := fun q hq => (hP q (hsm q hq)).2
      have a1 := nor_l (sp_only g1 v1)
      have a2 := nor_l (sp_only g2 (by simp))
      have a3 := nor_l (sp_only g3 v3)
      have b1 := nor_l (sp_without g1 v1)
      have b2 := nor_l (sp_without g2 (by simp))
      have b3 := nor_l (sp_without g3 v3)
      have c1 := sp_law_left (w := true) g1
      have c2 := sp_law_left (w := true) g2
      have c3 := sp_law_left (w := true) g3
      have d1 := sp_law_left (w := false) g1
      have d2 := sp_law_left (w := false) g2
      have d3 := sp_law_left (w := false) g3
      rw [List.map_nil] at a2 b2 c2 d2
      have hne : ∀ (P : List Pl) (w : Bool), neDU (lefts P w A B C) (lefts P w A B C) = some (.bool false) := fun P w => ne_lg (dr_kp dr)
      obtain ⟨BB, hBB⟩ : ∃ BB, chosenBody = BB := ⟨_, rfl⟩
      have one := @chosen_one
      simp! [backE, h6]
      rw [← hT1]
      unfold chosenFor
      rw [hBB] at one ⊢
      simp! [h7, for_cons]
      refine one a1 c1 b1 d1 (hne _ _) (hne _ _) ?_
      simp! [for_cons]
      refine one a2 c2 b2 d2 (hne _ _) (hne _ _) ?_
      simp! [for_cons]
      refine one a3 c3 b3 d3 (hne _ _) (hne _ _) ?_
      simp! [for_cons]
      rw [← hT2]
      refine tail_ok lc la hz h8 h9 h10 fun o8 o9 o10 c8 c9 c10 => ?_
      exact ⟨_, _, _, _, _, _, _, _, _, _, ⟨rfl, rfl, rfl, rfl, rfl, rfl, rfl, c8, c9, c10⟩, rfl⟩
  · rintro ρ' ⟨o1, o2, o3, o4, o5, o6, o7, o8, o9, o10, ⟨h1, h2, h3, h4, h5, h6, h7, h8, h9, h10⟩, rfl⟩
    simp! []
end Lw
set_option maxHeartbeats 4000000
namespace Lw
open PySem PySem.Spec PyProof.Rows L2 Dn
theorem all_mk {l : PySem.W.OpenLaw} {w : World} {K : PySem.W.Frag} {h : Heap} {mg : Str → Option Value} {fa : Addr} (X : K.In h) (G : h.Ns mainGlobals mg) (hfa : mg "law" = some (.ref fa))
    {f0 : Addr} {oc0 kV0 dc0 pm0 cd0 ct0 : Value} {od0 an0 : Option Addr} {sl0 : Array (Option Value)}
    (a0 : PySem.W.nsIn K mainGlobals "_law_left" = some (some (.ref f0))) (l0 : K.lookup f0 = some ⟨oc0, od0, .func (PySem.W.fnOf "_law_left" "_law_left" (defArgs s__law_left) (defBody s__law_left) (defScope s__law_left) .none kV0 dc0 pm0 an0 cd0 ct0), sl0⟩) (c0 : PySem.W.codeIn K cd0 "_law_left" = true) (k0 : PySem.W.keepIn K (.ref f0) = true)
    {f1 : Addr} {oc1 kV1 dc1 pm1 cd1 ct1 : Value} {od1 an1 : Option Addr} {sl1 : Array (Option Value)}
    (a1 : PySem.W.nsIn K mainGlobals "_law_cell" = some (some (.ref f1))) (l1 : K.lookup f1 = some ⟨oc1, od1, .func (PySem.W.fnOf "_law_cell" "_law_cell" (defArgs s__law_cell) (defBody s__law_cell) (defScope s__law_cell) .none kV1 dc1 pm1 an1 cd1 ct1), sl1⟩) (c1 : PySem.W.codeIn K cd1 "_law_cell" = true) (k1 : PySem.W.keepIn K (.ref f1) = true)
    {f2 : Addr} {oc2 kV2 dc2 pm2 cd2 ct2 : Value} {od2 an2 : Option Addr} {sl2 : Array (Option Value)}
    (a2 : PySem.W.nsIn K mainGlobals "_law_digit" = some (some (.ref f2))) (l2 : K.lookup f2 = some ⟨oc2, od2, .func (PySem.W.fnOf "_law_digit" "_law_digit" (defArgs s__law_digit) (defBody s__law_digit) (defScope s__law_digit) .none kV2 dc2 pm2 an2 cd2 ct2), sl2⟩) (c2 : PySem.W.codeIn K cd2 "_law_digit" = true) (k2 : PySem.W.keepIn K (.ref f2) = true)
    {f3 : Addr} {oc3 kV3 dc3 pm3 cd3 ct3 : Value} {od3 an3 : Option Addr} {sl3 : Array (Option Value)}
    (a3 : PySem.W.nsIn K mainGlobals "_law_entries" = some (some (.ref f3))) (l3 : K.lookup f3 = some ⟨oc3, od3, .func (PySem.W.fnOf "_law_entries" "_law_entries" (defArgs s__law_entries) (defBody s__law_entries) (defScope s__law_entries) .none kV3 dc3 pm3 an3 cd3 ct3), sl3⟩) (c3 : PySem.W.codeIn K cd3 "_law_entries" = true) (k3 : PySem.W.keepIn K (.ref f3) = true)
    {f4 : Addr} {oc4 kV4 dc4 pm4 cd4 ct4 : Value} {od4 an4 : Option Addr} {sl4 : Array (Option Value)}
    (a4 : PySem.W.nsIn K mainGlobals "_law_start" = some (some (.ref f4))) (l4 : K.lookup f4 = some ⟨oc4, od4, .func (PySem.W.fnOf "_law_start" "_law_start" (defArgs s__law_start) (defBody s__law_start) (defScope s__law_start) .none kV4 dc4 pm4 an4 cd4 ct4), sl4⟩) (c4 : PySem.W.codeIn K cd4 "_law_start" = true) (k4 : PySem.W.keepIn K (.ref f4) = true)
    {f5 : Addr} {oc5 kV5 dc5 pm5 cd5 ct5 : Value} {od5 an5 : Option Addr} {sl5 : Array (Option Value)}
    (a5 : PySem.W.nsIn K mainGlobals "_law_logs" = some (some (.ref f5))) (l5 : K.lookup f5 = some ⟨oc5, od5, .func (PySem.W.fnOf "_law_logs" "_law_logs" (defArgs s__law_logs) (defBody s__law_logs) (defScope s__law_logs) .none kV5 dc5 pm5 an5 cd5 ct5), sl5⟩) (c5 : PySem.W.codeIn K cd5 "_law_logs" = true) (k5 : PySem.W.keepIn K (.ref f5) = true)
    {f6 : Addr} {oc6 kV6 dc6 pm6 cd6 ct6 : Value} {od6 an6 : Option Addr} {sl6 : Array (Option Value)}
    (a6 : PySem.W.nsIn K mainGlobals "_law_on_time" = some (some (.ref f6))) (l6 : K.lookup f6 = some ⟨oc6, od6, .func (PySem.W.fnOf "_law_on_time" "_law_on_time" (defArgs s__law_on_time) (defBody s__law_on_time) (defScope s__law_on_time) .none kV6 dc6 pm6 an6 cd6 ct6), sl6⟩) (c6 : PySem.W.codeIn K cd6 "_law_on_time" = true) (k6 : PySem.W.keepIn K (.ref f6) = true)
    {f7 : Addr} {oc7 kV7 dc7 pm7 cd7 ct7 : Value} {od7 an7 : Option Addr} {sl7 : Array (Option Value)}
    (a7 : PySem.W.nsIn K mainGlobals "event_at" = some (some (.ref f7))) (l7 : K.lookup f7 = some ⟨oc7, od7, .func (PySem.W.fnOf "event_at" "event_at" (defArgs s_event_at) (defBody s_event_at) (defScope s_event_at) .none kV7 dc7 pm7 an7 cd7 ct7), sl7⟩) (c7 : PySem.W.codeIn K cd7 "event_at" = true) (k7 : PySem.W.keepIn K (.ref f7) = true)
    {f8 : Addr} {oc8 kV8 dc8 pm8 cd8 ct8 : Value} {od8 an8 : Option Addr} {sl8 : Array (Option Value)}
    (a8 : PySem.W.nsIn K mainGlobals "left_in" = some (some (.ref f8))) (l8 : K.lookup f8 = some ⟨oc8, od8, .func (PySem.W.fnOf "left_in" "left_in" (defArgs s_left_in) (defBody s_left_in) (defScope s_left_in) .none kV8 dc8 pm8 an8 cd8 ct8), sl8⟩) (c8 : PySem.W.codeIn K cd8 "left_in" = true) (k8 : PySem.W.keepIn K (.ref f8) = true)
    {f9 : Addr} {oc9 kV9 dc9 pm9 cd9 ct9 : Value} {od9 an9 : Option Addr} {sl9 : Array (Option Value)}
    (a9 : PySem.W.nsIn K mainGlobals "only_these" = some (some (.ref f9))) (l9 : K.lookup f9 = some ⟨oc9, od9, .func (PySem.W.fnOf "only_these" "only_these" (defArgs s_only_these) (defBody s_only_these) (defScope s_only_these) .none kV9 dc9 pm9 an9 cd9 ct9), sl9⟩) (c9 : PySem.W.codeIn K cd9 "only_these" = true) (k9 : PySem.W.keepIn K (.ref f9) = true)
    {f10 : Addr} {oc10 kV10 dc10 pm10 cd10 ct10 : Value} {od10 an10 : Option Addr} {sl10 : Array (Option Value)}
    (a10 : PySem.W.nsIn K mainGlobals "without_these" = some (some (.ref f10))) (l10 : K.lookup f10 = some ⟨oc10, od10, .func (PySem.W.fnOf "without_these" "without_these" (defArgs s_without_these) (defBody s_without_these) (defScope s_without_these) .none kV10 dc10 pm10 an10 cd10 ct10), sl10⟩) (c10 : PySem.W.codeIn K cd10 "without_these" = true) (k10 : PySem.W.keepIn K (.ref f10) = true)
    {f11 : Addr} {oc11 kV11 dc11 pm11 cd11 ct11 : Value} {od11 an11 : Option Addr} {sl11 : Array (Option Value)}
    (a11 : PySem.W.nsIn K mainGlobals "_law_refused" = some (some (.ref f11))) (l11 : K.lookup f11 = some ⟨oc11, od11, .func (PySem.W.fnOf "_law_refused" "_law_refused" (defArgs s__law_refused) (defBody s__law_refused) (defScope s__law_refused) .none kV11 dc11 pm11 an11 cd11 ct11), sl11⟩) (c11 : PySem.W.codeIn K cd11 "_law_refused" = true) (k11 : PySem.W.keepIn K (.ref f11) = true)
    {f12 : Addr} {oc12 kV12 dc12 pm12 cd12 ct12 : Value} {od12 an12 : Option Addr} {sl12 : Array (Option Value)}
    (a12 : PySem.W.nsIn K mainGlobals "late_indexes" = some (some (.ref f12))) (l12 : K.lookup f12 = some ⟨oc12, od12, .func (PySem.W.fnOf "late_indexes" "late_indexes" (defArgs s_late_indexes) (defBody s_late_indexes) (defScope s_late_indexes) .none kV12 dc12 pm12 an12 cd12 ct12), sl12⟩) (c12 : PySem.W.codeIn K cd12 "late_indexes" = true) (k12 : PySem.W.keepIn K (.ref f12) = true)
    {f13 : Addr} {oc13 kV13 dc13 pm13 cd13 ct13 : Value} {od13 an13 : Option Addr} {sl13 : Array (Option Value)}
    (a13 : PySem.W.nsIn K mainGlobals "events_of" = some (some (.ref f13))) (l13 : K.lookup f13 = some ⟨oc13, od13, .func (PySem.W.fnOf "events_of" "events_of" (defArgs s_events_of) (defBody s_events_of) (defScope s_events_of) .none kV13 dc13 pm13 an13 cd13 ct13), sl13⟩) (c13 : PySem.W.codeIn K cd13 "events_of" = true) (k13 : PySem.W.keepIn K (.ref f13) = true)
    {f14 : Addr} {oc14 kV14 dc14 pm14 cd14 ct14 : Value} {od14 an14 : Option Addr} {sl14 : Array (Option Value)}
    (a14 : PySem.W.nsIn K mainGlobals "law" = some (some (.ref f14))) (l14 : K.lookup f14 = some ⟨oc14, od14, .func (PySem.W.fnOf "law" "law" (defArgs s_law) (defBody s_law) (defScope s_law) .none kV14 dc14 pm14 an14 cd14 ct14), sl14⟩) (c14 : PySem.W.codeIn K cd14 "law" = true) (k14 : PySem.W.keepIn K (.ref f14) = true)
    (z0 : PySem.W.nsIn K mainGlobals "abs" = some none)
    (z1 : PySem.W.nsIn K mainGlobals "enumerate" = some none)
    (z2 : PySem.W.nsIn K mainGlobals "int" = some none)
    (z3 : PySem.W.nsIn K mainGlobals "len" = some none)
    (z4 : PySem.W.nsIn K mainGlobals "max" = some none)
    (z5 : PySem.W.nsIn K mainGlobals "min" = some none)
    (z6 : PySem.W.nsIn K mainGlobals "range" = some none)
    (z7 : PySem.W.nsIn K mainGlobals "repr" = some none)
    (z8 : PySem.W.nsIn K mainGlobals "sorted" = some none)
    (z9 : PySem.W.nsIn K mainGlobals "str" = some none)
    {CT fI cdI ccI : Addr} {oI dcI pmI ctI cclI clI : Value} {odI anI cddI cldI : Option Addr} {slI ccsI cslI : Array (Option Value)} {vsI : Array Value} {fileI : Str} {tfI : Tok}
    {C_InvalidLogs N_InvalidLogs_ : Addr} {nm_InvalidLogs q_InvalidLogs : Str} {bs_InvalidLogs bm_InvalidLogs sub_InvalidLogs : List Value} {sn_InvalidLogs : List Str} {ab_InvalidLogs : Bool} {col_InvalidLogs : Option Bool} {dd_InvalidLogs : Option Addr} {m0_InvalidLogs m1_InvalidLogs m2_InvalidLogs m3_InvalidLogs m5_InvalidLogs : Option Value}
    (xgx_InvalidLogs : PySem.W.nsIn K mainGlobals "InvalidLogs" = some (some (.ref C_InvalidLogs)))
    (xxL_InvalidLogs : K.lookup C_InvalidLogs = some (excClassObj nm_InvalidLogs q_InvalidLogs C_InvalidLogs N_InvalidLogs_ bs_InvalidLogs bm_InvalidLogs true sn_InvalidLogs sub_InvalidLogs ab_InvalidLogs col_InvalidLogs dd_InvalidLogs m0_InvalidLogs m1_InvalidLogs m2_InvalidLogs m3_InvalidLogs m5_InvalidLogs "ValueError.__new__"))
    (xhb_InvalidLogs : PySem.HandSPX.refsVE bm_InvalidLogs = true)
    (xsa_InvalidLogs : PySem.W.findIn K (.ref C_InvalidLogs) "__setattr__" = some (some (.builtin "object.__setattr__")))
    (xga_InvalidLogs : PySem.W.findIn K (.ref C_InvalidLogs) "__getattribute__" = some (some (.builtin "BaseException.__getattribute__")))
    (xgg_InvalidLogs : PySem.W.findIn K (.ref C_InvalidLogs) "__getattr__" = some none)
    (xnb_InvalidLogs : PySem.W.findIn K (.ref C_InvalidLogs) "message" = some none)
    (xai_InvalidLogs : PySem.W.findIn K (.ref C_InvalidLogs) "__init__" = some (some (.ref fI)))
    (xkC_InvalidLogs : PySem.W.keepIn K (.ref C_InvalidLogs) = true)
    (xeC_InvalidLogs : PySem.W.subIn K (.ref C_InvalidLogs) (.type "BaseException") = some true)
    (xvC_InvalidLogs : PySem.W.subIn K (.ref C_InvalidLogs) (.type "ValueError") = some true)
    (xtC_InvalidLogs : PySem.W.typeIn K (.ref C_InvalidLogs) = some (.type "type"))
    (xhC_InvalidLogs : PySem.W.hasDictIn K C_InvalidLogs = true)
    (xiC_InvalidLogs : PySem.W.isClsIn K C_InvalidLogs = true)
    (xca_InvalidLogs : PySem.W.findIn K (.ref C_InvalidLogs) "__class__" = some (some (.builtin "object.__class__")))
    (xcm_InvalidLogs : PySem.W.mroIn K C_InvalidLogs (.type "object") = some true)
    (xlI : K.lookup fI = some ⟨oI, odI, .func (PySem.W.ksFn "__init__" "TideweirError.__init__" (Tw.iA ⟨4, 17, 4, 21⟩ ⟨4, 23, 4, 30⟩) (Tw.iB ⟨5, 8, 5, 13⟩ ⟨5, 8, 5, 15⟩ ⟨5, 8, 5, 24⟩ ⟨5, 25, 5, 32⟩ ⟨5, 8, 5, 33⟩ ⟨5, 8, 5, 33⟩ ⟨6, 8, 6, 12⟩ ⟨6, 8, 6, 20⟩ ⟨6, 23, 6, 30⟩ ⟨6, 8, 6, 30⟩) Tw.iS .none .none dcI pmI anI (.ref cdI) ctI ccI), slI⟩)
    (xcI : PySem.W.codeIn K (.ref cdI) "TideweirError.__init__" = true)
    (xlc : K.lookup cdI = some ⟨cclI, cddI, .fields vsI, ccsI⟩)
    (xhv : vsI[2]? = some (.str fileI tfI))
    (xhf : ((l.prog.main.file : Str) == fileI) = true)
    (xlo : K.lookup ccI = some ⟨clI, cldI, .cell (some (.ref CT)), cslI⟩)
    (xiT : PySem.W.isClsIn K CT = true)
    (xty : PySem.W.typeIn K (.ref fI) = some (.type "function"))
    (xnu : PySem.W.nsIn K mainGlobals "super" = some none)
    (xop : PySem.W.nsIn K PySem.cStatics "thirdparty.any" = some none)
    (xtp : (l.prog.main.scope.names.lookup ("super" : Str)).isSome = false)
    (xcn : PySem.W.specialIn K (.builtin "object.__class__") "__get__" = some (some (.builtin "getset_descriptor.__get__")))
    (xct : PySem.W.takesIn K (.builtin "object.__class__") = some true)
    (xsT_InvalidLogs : PySem.W.mroIn K C_InvalidLogs (.ref CT) = some true)
    (xku_InvalidLogs : PySem.W.ks_superIn K C_InvalidLogs CT "__init__" = some (some (.builtin "ValueError.__init__")))
    (xe_InvalidLogs_InvalidLogs : PySem.W.subIn K (.ref C_InvalidLogs) (.ref C_InvalidLogs) = some true)
    : ∃ fd : FuncData, Fun K "law" "law" s_law fa fd ∧ (∀ (s : Shared) (v : Value), BindsTo s fd ⟨[v], []⟩ [("script", v)]) ∧ ∀ (base : Heap) (cdv : Value) (s : Shared) (H : Hp) (E : XK), K.In base → base.Ns mainGlobals mg → (∃ mm, base.Ns sysModules mm) → DSs (cxOf CX0 l.prog w K mg base N_law "law" (defScope s_law) fa cdv callerA [] s H E).nox (defBody s_law) g_law := by
  have e := hfa.symm.trans (PySem.W.mg_of X G a14)
  cases e
  let T : Txt l.prog K mg := ⟨_, _, fun_mk (st := s__law_left) l0 c0 k0, PySem.W.mg_of X G a0, _, _, fun_mk (st := s__law_cell) l1 c1 k1, PySem.W.mg_of X G a1, _, _, fun_mk (st := s__law_digit) l2 c2 k2, PySem.W.mg_of X G a2, _, _, fun_mk (st := s__law_entries) l3 c3 k3, PySem.W.mg_of X G a3, _, _, fun_mk (st := s__law_start) l4 c4 k4, PySem.W.mg_of X G a4, _, _, fun_mk (st := s__law_logs) l5 c5 k5, PySem.W.mg_of X G a5, _, _, fun_mk (st := s__law_on_time) l6 c6 k6, PySem.W.mg_of X G a6, _, _, fun_mk (st := s_event_at) l7 c7 k7, PySem.W.mg_of X G a7, _, _, fun_mk (st := s_left_in) l8 c8 k8, PySem.W.mg_of X G a8, _, _, fun_mk (st := s_only_these) l9 c9 k9, PySem.W.mg_of X G a9, _, _, fun_mk (st := s_without_these) l10 c10 k10, PySem.W.mg_of X G a10, _, _, fun_mk (st := s__law_refused) l11 c11 k11, PySem.W.mg_of X G a11, _, _, fun_mk (st := s_late_indexes) l12 c12 k12, PySem.W.mg_of X G a12, _, _, fun_mk (st := s_events_of) l13 c13 k13, PySem.W.mg_of X G a13, _, _, fun_mk (st := s_law) l14 c14 k14, PySem.W.mg_of X G a14, PySem.W.mg_none_of X G z0, PySem.W.mg_none_of X G z1, PySem.W.mg_none_of X G z2, PySem.W.mg_none_of X G z3, PySem.W.mg_none_of X G z4, PySem.W.mg_none_of X G z5, PySem.W.mg_none_of X G z6, PySem.W.mg_none_of X G z7, PySem.W.mg_none_of X G z8, PySem.W.mg_none_of X G z9, CT, fI, C_InvalidLogs, ⟨PySem.W.mg_of X G xgx_InvalidLogs, ⟨_, _, _, _, _, _, _, _, _, _, _, _, _, _, _, xxL_InvalidLogs, xhb_InvalidLogs⟩, xsa_InvalidLogs, xga_InvalidLogs, xgg_InvalidLogs, xnb_InvalidLogs, xai_InvalidLogs, xty, xkC_InvalidLogs, xeC_InvalidLogs, xvC_InvalidLogs, xtC_InvalidLogs, xhC_InvalidLogs, xiC_InvalidLogs, xca_InvalidLogs, xcn, xct, xcm_InvalidLogs, ⟨_, _, _, _, _, _, _, _, _, _, _, _, _, _, _, _, _, _, _, _, _, xlI, rfl, xcI, ⟨_, _, _, _, _, _, xlc, xhv, xhf⟩, _, _, _, xlo⟩, Option.isSome_iff_exists.mp xiT, xsT_InvalidLogs, PySem.W.mg_none_of X G xnu, xop, xku_InvalidLogs, xtp⟩, PySem.W.exm_ref xeC_InvalidLogs xhC_InvalidLogs xtC_InvalidLogs xe_InvalidLogs_InvalidLogs⟩
  exact ⟨T.d_law, T.F_law, fun s v => .of_eq rfl, fun base cdv s H E _ _ hm => ok_law T hm cdv s H E⟩
end Lw
open PySem PySem.W PyProof.Rows
set_option maxHeartbeats 0 in
theorem PySem.Challenge.cw_tideweir_k83_places_of_events_holds : PySem.Challenge.rw_tideweir_k83_places_of_events.Holds := by
  w_on; o_law; k_head; (case hw => w_witness2)
  k_fill
  refine Dn.walk_bodyM (l := PySem.Challenge.rw_tideweir_k83_places_of_events) (k := 4) (st := Lw.s_law) (N := Lw.N_law) (g := Lw.g_law) (by decide +kernel) rfl rfl ⟨rfl, by decide, by decide⟩ (fun w h Y => PySem.W.kIn_of Y) Lw.sc_law ?F (fun ns h => Lw.law_true ns h)
  case F =>
    intro w mg fa h KX G hmg
    refine' Lw.all_mk KX G hmg ?a0 ?l0 ?c0 ?k0 ?a1 ?l1 ?c1 ?k1 ?a2 ?l2 ?c2 ?k2 ?a3 ?l3 ?c3 ?k3 ?a4 ?l4 ?c4 ?k4 ?a5 ?l5 ?c5 ?k5 ?a6 ?l6 ?c6 ?k6 ?a7 ?l7 ?c7 ?k7 ?a8 ?l8 ?c8 ?k8 ?a9 ?l9 ?c9 ?k9 ?a10 ?l10 ?c10 ?k10 ?a11 ?l11 ?c11 ?k11 ?a12 ?l12 ?c12 ?k12 ?a13 ?l13 ?c13 ?k13 ?a14 ?l14 ?c14 ?k14 ?z0 ?z1 ?z2 ?z3 ?z4 ?z5 ?z6 ?z7 ?z8 ?z9 ?xgx_InvalidLogs ?xxL_InvalidLogs ?xhb_InvalidLogs ?xsa_InvalidLogs ?xga_InvalidLogs ?xgg_InvalidLogs ?xnb_InvalidLogs ?xai_InvalidLogs ?xkC_InvalidLogs ?xeC_InvalidLogs ?xvC_InvalidLogs ?xtC_InvalidLogs ?xhC_InvalidLogs ?xiC_InvalidLogs ?xca_InvalidLogs ?xcm_InvalidLogs ?xlI ?xcI ?xlc ?xhv ?xhf ?xlo ?xiT ?xty ?xnu ?xop ?xtp ?xcn ?xct ?xsT_InvalidLogs ?xku_InvalidLogs ?xe_InvalidLogs_InvalidLogs
    (case a0 => k_is); (case l0 => k_is); (case c0 => k_is); (case k0 => k_is); (case a1 => k_is); (case l1 => k_is); (case c1 => k_is); (case k1 => k_is); (case a2 => k_is); (case l2 => k_is); (case c2 => k_is); (case k2 => k_is); (case a3 => k_is); (case l3 => k_is); (case c3 => k_is); (case k3 => k_is); (case a4 => k_is); (case l4 => k_is); (case c4 => k_is); (case k4 => k_is); (case a5 => k_is); (case l5 => k_is); (case c5 => k_is); (case k5 => k_is); (case a6 => k_is); (case l6 => k_is); (case c6 => k_is); (case k6 => k_is); (case a7 => k_is); (case l7 => k_is); (case c7 => k_is); (case k7 => k_is); (case a8 => k_is); (case l8 => k_is); (case c8 => k_is); (case k8 => k_is); (case a9 => k_is); (case l9 => k_is); (case c9 => k_is); (case k9 => k_is); (case a10 => k_is); (case l10 => k_is); (case c10 => k_is); (case k10 => k_is); (case a11 => k_is); (case l11 => k_is); (case c11 => k_is); (case k11 => k_is); (case a12 => k_is); (case l12 => k_is); (case c12 => k_is); (case k12 => k_is); (case a13 => k_is); (case l13 => k_is); (case c13 => k_is); (case k13 => k_is); (case a14 => k_is); (case l14 => k_is); (case c14 => k_is); (case k14 => k_is); (case z0 => k_is); (case z1 => k_is); (case z2 => k_is); (case z3 => k_is); (case z4 => k_is); (case z5 => k_is); (case z6 => k_is); (case z7 => k_is); (case z8 => k_is); (case z9 => k_is); (case xgx_InvalidLogs => k_is); (case xxL_InvalidLogs => k_is); (case xhb_InvalidLogs => first | rfl | decide +kernel); (case xsa_InvalidLogs => k_is); (case xga_InvalidLogs => k_is); (case xgg_InvalidLogs => k_is); (case xnb_InvalidLogs => k_is); (case xai_InvalidLogs => k_is); (case xkC_InvalidLogs => k_is); (case xeC_InvalidLogs => k_is); (case xvC_InvalidLogs => k_is); (case xtC_InvalidLogs => k_is); (case xhC_InvalidLogs => k_is); (case xiC_InvalidLogs => k_is); (case xca_InvalidLogs => k_is); (case xcm_InvalidLogs => k_is); (case xlI => k_is); (case xcI => k_is); (case xlc => k_is); (case xhv => first | rfl | kernel_rfl); (case xhf => first | rfl | decide +kernel); (case xlo => k_is); (case xiT => k_is); (case xty => k_is); (case xnu => k_is); (case xop => k_is); (case xtp => first | rfl | decide +kernel); (case xcn => k_is); (case xct => k_is); (case xsT_InvalidLogs => k_is); (case xku_InvalidLogs => ks_is); (case xe_InvalidLogs_InvalidLogs => first | rfl | k_is)
