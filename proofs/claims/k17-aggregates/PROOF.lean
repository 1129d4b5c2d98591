import PyProof.Rows.All
import Wide.All
import OpenK.AllK
import Wide.FinOn
import KE.SortData
import HandS.ForMost
import HandS.Wide
import HandS.IsInst
import HandS.TupAny
import KE.LtData
import HandS.TupLe
import PyProof.P3Eq
import HandS.Deep
import KE.GoesEnum
import HandS.Iter
import HandS.Dict
import HandS.SortInts
import HandS.Ends
import PyProof.ReprRoads
import PyProof.ReprLen
import HandS.Rev
import PySem.Challenge.RW_tideweir_k17_aggregates
set_option Elab.async false
set_option linter.all false
set_option maxRecDepth 100000
set_option maxHeartbeats 1000000
/-! data in the heap, cells, steps -/
namespace Dn
open PySem PySem.Spec PyProof.Rows L2

abbrev D := PyData
/-- what a slot holds: a datum that stands for good, or a list of one's own (fixed: the def's parameter) -/
inductive Cell where
  | val (d : D)
  | own (fixed : Bool) (d : D)
abbrev Env := List (Option Cell)
abbrev Md (α : Type) := Env → Option (α × Env)

/-- a key of a dict as a datum -/
def keyD : Key → D
  | .inl i => .int i
  | .inr x => .str x
mutual
/-- v stands for the datum d -/
inductive Rp (K : PySem.W.Frag) (H : Hp) : V → D → Prop
  | non : Rp K H .non .none
  | bl (b : Bool) : Rp K H (.bl b) (.bool b)
  | int (i : Int) : Rp K H (.int i) (.int i)
  | str (x : Str) : Rp K H (.str x) (.str x)
  | lst {a : Addr} {vs : List V} {es : List D} (hs : SqL K H a vs) (hr : RpAll K H vs es) : Rp K H (.ref a) (.list es)
  | tup {a : Addr} {vs : List V} {es : List D} (hs : SqT K H a vs) (hr : RpAll K H vs es) : Rp K H (.ref a) (.tuple es)
  | dic {a : Addr} {ks : List (Key × V)} {es : List (D × D)} (hs : H a = some (.dK ks)) (hr : RpKV K H ks es) : Rp K H (.ref a) (.dict es)
inductive RpAll (K : PySem.W.Frag) (H : Hp) : List V → List D → Prop
  | nil : RpAll K H [] []
  | cons {v : V} {vs : List V} {d : D} {es : List D} (h1 : Rp K H v d) (h2 : RpAll K H vs es) : RpAll K H (v :: vs) (d :: es)
inductive RpKV (K : PySem.W.Frag) (H : Hp) : List (Key × V) → List (D × D) → Prop
  | nil : RpKV K H [] []
  | cons {k : Key} {v : V} {ks : List (Key × V)} {d : D} {es : List (D × D)} (h1 : Rp K H v d) (h2 : RpKV K H ks es) : RpKV K H ((k, v) :: ks) ((keyD k, d) :: es)
end
mutual
theorem rp_dp {K : PySem.W.Frag} {H : Hp} : ∀ {d : D} {v : V}, Rp K H v d → d.canLay0 = true → Dp K H v d
  | .none, _, h, _ => by cases h; exact .non
  | .bool _, _, h, _ => by cases h; exact .bl _
  | .int _, _, h, _ => by cases h; exact .int _
  | .str _, _, h, _ => by cases h; exact .str _
  | .list es, _, h, c => by
    cases h with
    | lst hs hr => exact .lst hs (rpAll_dp hr (by simpa [PyData.canLay0] using c))
  | .tuple es, _, h, c => by
    cases h with
    | tup hs hr => exact .tup hs (rpAll_dp hr (by simpa [PyData.canLay0] using c))
  | .dict _, _, _, c => by simp [PyData.canLay0] at c
theorem rpAll_dp {K : PySem.W.Frag} {H : Hp} : ∀ {ds : List D} {vs : List V}, RpAll K H vs ds → PyData.canLayAll0 ds = true → DpAll K H vs ds
  | [], _, h, _ => by cases h; exact .nil
  | d :: ds, _, h, c => by
    have c' : d.canLay0 = true ∧ PyData.canLayAll0 ds = true := by simpa [PyData.canLayAll0] using c
    cases h with
    | cons h1 h2 => exact .cons (rp_dp h1 c'.1) (rpAll_dp h2 c'.2)
end
theorem seqT_same {K : PySem.W.Frag} {H H' : Hp} {a : Addr} {xs : List V} (e : Same H H') (h : SqT K H a xs) : SqT K H' a xs := by
  rcases h with (h | ⟨o, h⟩) | h
  · exact .inl (.inl (e _ _ h))
  · exact .inl (.inr ⟨o, e _ _ h⟩)
  · exact .inr h
mutual
theorem dp_mono {K : PySem.W.Frag} {H H' : Hp} (e : Same H H') : ∀ (d : D) (v : V), Rp K H v d → Rp K H' v d
  | .none, _, h => by cases h; exact .non
  | .bool _, _, h => by cases h; exact .bl _
  | .int _, _, h => by cases h; exact .int _
  | .str _, _, h => by cases h; exact .str _
  | .list ds, _, h => by
    cases h with
    | lst hs ha => exact .lst (e.seq hs) (dpAll_mono e ds _ ha)
  | .tuple ds, _, h => by
    cases h with
    | tup hs ha => exact .tup (seqT_same e hs) (dpAll_mono e ds _ ha)
  | .dict es, _, h => by
    cases h with
    | dic hs hr => exact .dic (e _ _ hs) (dpKV_mono e es _ hr)
theorem dpAll_mono {K : PySem.W.Frag} {H H' : Hp} (e : Same H H') : ∀ (ds : List D) (vs : List V), RpAll K H vs ds → RpAll K H' vs ds
  | [], _, h => by cases h; exact .nil
  | d :: ds, _, h => by
    cases h with
    | cons h1 h2 => exact .cons (dp_mono e d _ h1) (dpAll_mono e ds _ h2)
theorem dpKV_mono {K : PySem.W.Frag} {H H' : Hp} (e : Same H H') : ∀ (ds : List (D × D)) (vs : List (Key × V)), RpKV K H vs ds → RpKV K H' vs ds
  | [], _, h => by cases h; exact .nil
  | (k, d) :: ds, _, h => by
    cases h with
    | cons h1 h2 => exact .cons (dp_mono e d _ h1) (dpKV_mono e ds _ h2)
end
theorem da_len {K : PySem.W.Frag} {H : Hp} : ∀ {vs : List V} {ds : List D}, RpAll K H vs ds → vs.length = ds.length
  | _, _, .nil => rfl
  | _, _, .cons _ t => congrArg (· + 1) (da_len t)
theorem da_get {K : PySem.W.Frag} {H : Hp} : ∀ {vs : List V} {ds : List D} {i : Nat} {v : V}, RpAll K H vs ds → vs[i]? = some v → ∃ d, ds[i]? = some d ∧ Rp K H v d
  | _, _, i, v, .nil, e => by simp at e
  | _, _, 0, v, .cons h _, e => by
    have q := Option.some.inj e
    subst q
    exact ⟨_, rfl, h⟩
  | _, _, i + 1, v, .cons _ t, e => da_get (i := i) t e
theorem da_at {K : PySem.W.Frag} {H : Hp} : ∀ {vs : List V} {ds : List D} {i : Nat} {d : D}, RpAll K H vs ds → ds[i]? = some d → ∃ v, vs[i]? = some v ∧ Rp K H v d
  | _, _, i, v, .nil, e => by simp at e
  | _, _, 0, v, .cons h _, e => by
    have q := Option.some.inj e
    subst q
    exact ⟨_, rfl, h⟩
  | _, _, i + 1, v, .cons _ t, e => da_at (i := i) t e
theorem da_app {K : PySem.W.Frag} {H : Hp} : ∀ {vs ws : List V} {ds es : List D}, RpAll K H vs ds → RpAll K H ws es → RpAll K H (vs ++ ws) (ds ++ es)
  | _, _, _, _, .nil, h => h
  | _, _, _, _, .cons h t, q => .cons h (da_app t q)
theorem da_drop {K : PySem.W.Frag} {H : Hp} : ∀ {vs : List V} {ds : List D} (n : Nat), RpAll K H vs ds → RpAll K H (vs.drop n) (ds.drop n)
  | _, _, 0, h => h
  | _, _, _ + 1, .nil => .nil
  | _, _, n + 1, .cons _ t => da_drop n t
theorem da_take {K : PySem.W.Frag} {H : Hp} : ∀ {vs : List V} {ds : List D} (n : Nat), RpAll K H vs ds → RpAll K H (vs.take n) (ds.take n)
  | _, _, 0, _ => .nil
  | _, _, _ + 1, .nil => .nil
  | _, _, n + 1, .cons h t => .cons h (da_take n t)
theorem da_set {K : PySem.W.Frag} {H : Hp} {v : V} {d : D} (r : Rp K H v d) : ∀ {vs : List V} {ds : List D} (n : Nat), RpAll K H vs ds → RpAll K H (vs.set n v) (ds.set n d)
  | _, _, _, .nil => .nil
  | _, _, 0, .cons _ t => .cons r t
  | _, _, n + 1, .cons h t => .cons h (da_set r n t)
theorem da_rev {K : PySem.W.Frag} {H : Hp} : ∀ {vs : List V} {ds : List D}, RpAll K H vs ds → RpAll K H vs.reverse ds.reverse
  | _, _, .nil => .nil
  | _, _, .cons h t => by
    rw [List.reverse_cons, List.reverse_cons]
    exact da_app (da_rev t) (.cons h .nil)
theorem da_ints {K : PySem.W.Frag} {H : Hp} : ∀ ns : List Int, RpAll K H (ns.map V.int) (ns.map PyData.int)
  | [] => .nil
  | n :: ns => .cons (.int n) (da_ints ns)
theorem da_of_ints {K : PySem.W.Frag} {H : Hp} : ∀ (ns : List Int) {vs : List V}, RpAll K H vs (ns.map PyData.int) → vs = ns.map V.int
  | [], _, h => by cases h; rfl
  | n :: ns, _, h => by
    cases h with
    | cons a t =>
      cases a
      rw [da_of_ints ns t]
      rfl

/-- a list of one's own at a: it isn't among what stands for good -/
def OwnAt (K : PySem.W.Frag) (F H : Hp) (a : Addr) (d : D) : Prop := F a = none ∧ ∃ xs ds, d = .list ds ∧ H a = some (.lst xs) ∧ RpAll K F xs ds
theorem OwnAt.there {K : PySem.W.Frag} {F H : Hp} {a : Addr} {d : D} (h : OwnAt K F H a d) : ∃ o, H a = some o := let ⟨_, _, _, _, e, _⟩ := h; ⟨_, e⟩

def CellOk (K : PySem.W.Frag) (F H : Hp) (x : Option (Option V)) : Cell → Prop
  | .val d => ∃ v, x = some (some v) ∧ Rp K F v d
  | .own _ d => ∃ a, x = some (some (.ref a)) ∧ OwnAt K F H a d

def Owns (σ : L2.St) (ρ : Env) (b : Addr) : Prop := ∃ (i : Nat) (f : Bool) (d : D), ρ[i]? = some (some (.own f d)) ∧ σ[i]? = some (some (.ref b))

/-- slots and heap bear the data environment; F is what stands for good -/
structure St (K : PySem.W.Frag) (F H : Hp) (σ : L2.St) (ρ : Env) : Prop where
  sub : Same F H
  len : ρ.length = σ.length
  cell : ∀ (i : Nat) (c : Cell), ρ[i]? = some (some c) → CellOk K F H σ[i]? c
  dist : ∀ (i j : Nat) (f g : Bool) (d e : D) (a : Addr), ρ[i]? = some (some (.own f d)) → ρ[j]? = some (some (.own g e)) → σ[i]? = some (some (.ref a)) → σ[j]? = some (some (.ref a)) → i = j

theorem St.free {K : PySem.W.Frag} {F H : Hp} {σ : L2.St} {ρ : Env} (s : St K F H σ ρ) {b : Addr} (o : Owns σ ρ b) : F b = none ∧ ∃ u, H b = some u := by
  obtain ⟨i, f, d, e, e2⟩ := o
  obtain ⟨a, e3, h⟩ := s.cell i _ e
  rw [e2] at e3
  cases e3
  exact ⟨h.1, h.there⟩

/-- from one state to another: what stood, but one's own, stands -/
structure Stp (F : Hp) (σ : L2.St) (ρ : Env) (H : Hp) (F' : Hp) (σ' : L2.St) (ρ' : Env) (H' : Hp) : Prop where
  ff : Same F F'
  keep : ∀ b o, H b = some o → ¬ Owns σ ρ b → H' b = some o ∧ F' b = F b
  fresh : ∀ b, Owns σ' ρ' b → Owns σ ρ b ∨ H b = none
  fix : ∀ (i : Nat) (d : D), ρ[i]? = some (some (.own true d)) → σ'[i]? = σ[i]? ∧ ∃ d', ρ'[i]? = some (some (.own true d'))
  dom : ∀ b o, H b = some o → ∃ o', H' b = some o'
theorem Stp.refl {F : Hp} {σ : L2.St} {ρ : Env} {H : Hp} : Stp F σ ρ H F σ ρ H := ⟨Same.refl _, fun _ _ h _ => ⟨h, rfl⟩, fun _ h => .inl h, fun _ d h => ⟨rfl, d, h⟩, fun _ o h => ⟨o, h⟩⟩
theorem Stp.trans {F F1 F2 : Hp} {σ σ1 σ2 : L2.St} {ρ ρ1 ρ2 : Env} {H H1 H2 : Hp} (a : Stp F σ ρ H F1 σ1 ρ1 H1) (b : Stp F1 σ1 ρ1 H1 F2 σ2 ρ2 H2) : Stp F σ ρ H F2 σ2 ρ2 H2 where
  ff := a.ff.trans b.ff
  keep := fun c o h n => by
    obtain ⟨h1, f1⟩ := a.keep c o h n
    have n1 : ¬ Owns σ1 ρ1 c := fun z => by
      rcases a.fresh c z with y | y
      · exact n y
      · rw [h] at y; cases y
    obtain ⟨h2, f2⟩ := b.keep c o h1 n1
    exact ⟨h2, f2.trans f1⟩
  fresh := fun c z => by
    rcases b.fresh c z with y | y
    · exact a.fresh c y
    · cases q : H c with
      | none => exact .inr rfl
      | some o =>
        by_cases n : Owns σ ρ c
        · exact .inl n
        · rw [(a.keep c o q n).1] at y; cases y
  fix := fun i d h => by
    obtain ⟨e1, d1, h1⟩ := a.fix i d h
    obtain ⟨e2, d2, h2⟩ := b.fix i d1 h1
    exact ⟨e2.trans e1, d2, h2⟩
  dom := fun c o h => by
    obtain ⟨o1, h1⟩ := a.dom c o h
    exact b.dom c o1 h1
theorem Stp.none {F F1 : Hp} {σ σ1 : L2.St} {ρ ρ1 : Env} {H H1 : Hp} (a : Stp F σ ρ H F1 σ1 ρ1 H1) {p : Addr} (h : H1 p = none) : H p = none := by
  cases q : H p with
  | none => rfl
  | some o =>
    obtain ⟨o', e⟩ := a.dom p o q
    rw [h] at e
    cases e

/-- new things, and nothing else -/
structure Grow (F H F' H' : Hp) : Prop where
  ff : Same F F'
  hh : Same H H'
  fh : Same F' H'
  new : ∀ b o, H b = some o → F' b = F b
theorem Grow.refl {F H : Hp} (s : Same F H) : Grow F H F H := ⟨Same.refl _, Same.refl _, s, fun _ _ _ => rfl⟩
theorem Grow.trans {F H F1 H1 F2 H2 : Hp} (a : Grow F H F1 H1) (b : Grow F1 H1 F2 H2) : Grow F H F2 H2 :=
  ⟨a.ff.trans b.ff, a.hh.trans b.hh, b.fh, fun c o h => (b.new c o (a.hh c o h)).trans (a.new c o h)⟩
theorem same_new {H : Hp} {p : Addr} {o : HO} (h : H p = none) : Same H (upd H p o) := fun b x e => by
  rw [upd_ne (ne_of_none e h)]
  exact e
theorem same_upd2 {F H : Hp} {p : Addr} {o : HO} (s : Same F H) : Same (upd F p o) (upd H p o) := fun b x e => by
  by_cases h : b = p
  · subst h
    rw [upd_same] at e ⊢
    exact e
  · rw [upd_ne h] at e ⊢
    exact s b x e
theorem none_sub {F H : Hp} {p : Addr} (s : Same F H) (h : H p = none) : F p = none := s.free h
/-- a new thing that stands for good -/
theorem Grow.val {F H : Hp} {p : Addr} {o : HO} (s : Same F H) (h : H p = none) : Grow F H (upd F p o) (upd H p o) :=
  ⟨same_new (none_sub s h), same_new h, same_upd2 s, fun b x e => upd_ne (ne_of_none e h)⟩
/-- a new thing of one's own -/
theorem Grow.own {F H : Hp} {p : Addr} {o : HO} (s : Same F H) (h : H p = none) : Grow F H F (upd H p o) :=
  ⟨Same.refl _, same_new h, s.trans (same_new h), fun _ _ _ => rfl⟩
theorem OwnAt.grow {K : PySem.W.Frag} {F H F' H' : Hp} {a : Addr} {d : D} (g : Grow F H F' H') (h : OwnAt K F H a d) : OwnAt K F' H' a d := by
  obtain ⟨f, xs, ds, e, hh, da⟩ := h
  exact ⟨(g.new a _ hh).trans f, xs, ds, e, g.hh _ _ hh, dpAll_mono g.ff _ _ da⟩
theorem St.grow {K : PySem.W.Frag} {F H F' H' : Hp} {σ : L2.St} {ρ : Env} (s : St K F H σ ρ) (g : Grow F H F' H') : St K F' H' σ ρ where
  sub := g.fh
  len := s.len
  cell := fun i c e => by
    have q := s.cell i c e
    cases c with
    | val d =>
      obtain ⟨v, e1, r⟩ := q
      exact ⟨v, e1, dp_mono g.ff _ _ r⟩
    | own f d =>
      obtain ⟨a, e1, r⟩ := q
      exact ⟨a, e1, r.grow g⟩
  dist := s.dist
theorem Grow.stp {F H F' H' : Hp} (g : Grow F H F' H') (σ : L2.St) (ρ : Env) : Stp F σ ρ H F' σ ρ H' :=
  ⟨g.ff, fun b o h _ => ⟨g.hh b o h, g.new b o h⟩, fun _ h => .inl h, fun _ d h => ⟨rfl, d, h⟩, fun b o h => ⟨o, g.hh b o h⟩⟩

/-! ### the readings -/
section
variable (K : PySem.W.Frag)
def tD (g : Md D) : TE := fun σ H Q => ∃ (F : Hp) (ρ : Env) (d : D) (ρ' : Env), St K F H σ ρ ∧ g ρ = some (d, ρ') ∧
  ∀ v F' H', Stp F σ ρ H F' σ ρ' H' → St K F' H' σ ρ' → Rp K F' v d → Q v H'
/-- the answer is a new list of one's own -/
def tF (g : Md D) : TE := fun σ H Q => ∃ (F : Hp) (ρ : Env) (d : D) (ρ' : Env), St K F H σ ρ ∧ g ρ = some (d, ρ') ∧
  ∀ a F' H', Stp F σ ρ H F' σ ρ' H' → St K F' H' σ ρ' → OwnAt K F' H' a d → ¬ Owns σ ρ' a → H a = none → Q (.ref a) H'
def tDT (g : Md Bool) : TT := fun σ H Q => ∃ (F : Hp) (ρ : Env) (d : Bool) (ρ' : Env), St K F H σ ρ ∧ g ρ = some (d, ρ') ∧
  ∀ F' H', Stp F σ ρ H F' σ ρ' H' → St K F' H' σ ρ' → Q d H'
def tDA (g : Md (List D)) : TA := fun σ H Q => ∃ (F : Hp) (ρ : Env) (ds : List D) (ρ' : Env), St K F H σ ρ ∧ g ρ = some (ds, ρ') ∧
  ∀ vs F' H', Stp F σ ρ H F' σ ρ' H' → St K F' H' σ ρ' → RpAll K F' vs ds → Q vs H'
inductive Fl where
  | nx | ret (d : D) | rof (d : D) | brk | cnt
abbrev Sd := Env → Option (Fl × Env)
def FlOk (E : Ends) (H0 F' : Hp) (σ' : L2.St) (H' : Hp) : Fl → Prop
  | .nx => E.nx σ' H'
  | .ret d => ∀ v, Rp K F' v d → E.rt v H'
  | .rof d => ∀ a, OwnAt K F' H' a d → H0 a = none → E.rt (.ref a) H'
  | .brk => E.bk σ' H'
  | .cnt => E.ct σ' H'
def tDS (g : Sd) : TS := fun E σ H => ∃ (F : Hp) (ρ : Env) (f : Fl) (ρ' : Env), St K F H σ ρ ∧ g ρ = some (f, ρ') ∧
  ∀ σ' F' H', Stp F σ ρ H F' σ' ρ' H' → St K F' H' σ' ρ' → FlOk K E H F' σ' H' f
/-- a target's reading: the datum is stored -/
def tDG (is : List Nat) (g : D → Env → Option Env) : TG := fun v σ H Q => ∃ (F : Hp) (ρ : Env) (d : D) (ρ' : Env), St K F H σ ρ ∧ Rp K F v d ∧ g d ρ = some ρ' ∧
  ∀ σ' F' H', Stp F σ ρ H F' σ' ρ' H' → St K F' H' σ' ρ' → (σ'.length = σ.length ∧ ∀ j, j ∉ is → σ'[j]? = σ[j]?) → Q σ' H'
/-- operators: the answer from the data -/
def rP2 (f : D → D → Option D) : R2 := fun x y H Q => ∃ (F : Hp) (d e r : D), Same F H ∧ Rp K F x d ∧ Rp K F y e ∧ f d e = some r ∧ ∀ v F' H', Grow F H F' H' → Rp K F' v r → Q v H'
def rP1 (f : D → Option D) : V → Hp → VK → Prop := fun x H Q => ∃ (F : Hp) (d r : D), Same F H ∧ Rp K F x d ∧ f d = some r ∧ ∀ v F' H', Grow F H F' H' → Rp K F' v r → Q v H'
def rPn (f : List D → Option D) : List V → Hp → VK → Prop := fun xs H Q => ∃ (F : Hp) (ds : List D) (r : D), Same F H ∧ RpAll K F xs ds ∧ f ds = some r ∧ ∀ v F' H', Grow F H F' H' → Rp K F' v r → Q v H'
/-- .. a new list -/
def rFn (f : List D → Option D) : List V → Hp → VK → Prop := fun xs H Q => ∃ (F : Hp) (ds : List D) (r : D), Same F H ∧ RpAll K F xs ds ∧ f ds = some r ∧ ∀ a F' H', Grow F H F' H' → OwnAt K F' H' a r → H a = none → Q (.ref a) H'
end
abbrev DE (X : Cx) (e : Expr) (g : Md D) : Prop := PE X e (tD X.K g)
abbrev DF (X : Cx) (e : Expr) (g : Md D) : Prop := PE X e (tF X.K g)
abbrev DT (X : Cx) (e : Expr) (g : Md Bool) : Prop := PT X e (tDT X.K g)
abbrev DW (X : Cx) (e : Expr) (g : Md Bool) : Prop := PW X e (tDT X.K g)
abbrev DA (X : Cx) (es : List Expr) (g : Md (List D)) : Prop := PA X es (tDA X.K g)
abbrev DS (X : Cx) (st : Stmt) (g : Sd) : Prop := PS X st (tDS X.K g)
abbrev DSs (X : Cx) (st : List Stmt) (g : Sd) : Prop := PSs X st (tDS X.K g)
abbrev DG (X : Cx) (e : Expr) (is : List Nat) (g : D → Env → Option Env) : Prop := PG X e (tDG X.K is g)

theorem pe_imp {X : Cx} {e : Expr} {t t' : TE} (h : PE X e t) (i : ∀ σ H Q, t' σ H Q → t σ H Q) : PE X e t' := ⟨fun pins s σ H Q I q => h.run pins s σ H Q I (i σ H Q q)⟩
theorem pt_imp {X : Cx} {e : Expr} {t t' : TT} (h : PT X e t) (i : ∀ σ H Q, t' σ H Q → t σ H Q) : PT X e t' := ⟨fun pins s σ H Q I q => h.run pins s σ H Q I (i σ H Q q)⟩
theorem pw_imp {X : Cx} {e : Expr} {t t' : TT} (h : PW X e t) (i : ∀ σ H Q, t' σ H Q → t σ H Q) : PW X e t' := ⟨fun wh pins s σ H Q I q => h.run wh pins s σ H Q I (i σ H Q q)⟩
theorem pa_imp {X : Cx} {e : List Expr} {t t' : TA} (h : PA X e t) (i : ∀ σ H Q, t' σ H Q → t σ H Q) : PA X e t' := ⟨fun pos pins s σ H Q I q => h.run pos pins s σ H Q I (i σ H Q q)⟩
theorem ps_imp {X : Cx} {e : Stmt} {t t' : TS} (h : PS X e t) (i : ∀ E σ H, t' E σ H → t E σ H) : PS X e t' := ⟨fun pins s σ H E I q => h.run pins s σ H E I (i E σ H q)⟩
theorem pss_imp {X : Cx} {e : List Stmt} {t t' : TS} (h : PSs X e t) (i : ∀ E σ H, t' E σ H → t E σ H) : PSs X e t' := ⟨fun pins s σ H E I q => h.run pins s σ H E I (i E σ H q)⟩
theorem pg_imp {X : Cx} {e : Expr} {t t' : TG} (h : PG X e t) (i : ∀ v σ H Q, t' v σ H Q → t v σ H Q) : PG X e t' := ⟨fun pins s σ H v u Q I r q => h.run pins s σ H v u Q I r (i v σ H Q q)⟩
end Dn
set_option maxHeartbeats 1000000
/-! expressions over data -/
namespace Dn
open PySem PySem.Spec PyProof.Rows L2

/-! ### the functions on data -/
def gC (d : D) : Md D := fun ρ => some (d, ρ)
def gVar (i : Nat) : Md D := fun ρ => match ρ[i]? with
  | some (some (.val d)) => some (d, ρ)
  | _ => none
def gFrz (i : Nat) : Md D := fun ρ => match ρ[i]? with
  | some (some (.val d)) => some (d, ρ)
  | some (some (.own false d)) => some (d, ρ.set i (some (.val d)))
  | _ => none
def gBin (f : D → D → Option D) (ga gb : Md D) : Md D := fun ρ => (ga ρ).bind fun p => (gb p.2).bind fun q => (f p.1 q.1).bind fun r => some (r, q.2)
def gUn (f : D → Option D) (ga : Md D) : Md D := fun ρ => (ga ρ).bind fun p => (f p.1).bind fun r => some (r, p.2)
def bOf : D → Option Bool
  | .bool b => some b
  | _ => none
def gTst (g : Md D) : Md Bool := fun ρ => (g ρ).bind fun p => (bOf p.1).bind fun b => some (b, p.2)
def gChain (f f' : D → D → Option D) (ga gb gc : Md D) : Md D := fun ρ => (ga ρ).bind fun p => (gb p.2).bind fun q => (f p.1 q.1).bind fun r => (bOf r).bind fun b =>
  if b = true then (gc q.2).bind fun t => (f' q.1 t.1).bind fun r => some (r, t.2) else some (.bool false, q.2)
def gAnd (ga gb : Md Bool) : Md Bool := fun ρ => (ga ρ).bind fun p => if p.1 = true then gb p.2 else some (false, p.2)
def gOr (ga gb : Md Bool) : Md Bool := fun ρ => (ga ρ).bind fun p => if p.1 = true then some (true, p.2) else gb p.2
def gNot (ga : Md Bool) : Md Bool := fun ρ => (ga ρ).bind fun p => some (!p.1, p.2)
def gAndV (ga gb : Md D) : Md D := fun ρ => (ga ρ).bind fun p => (bOf p.1).bind fun b => if b = true then gb p.2 else some (.bool false, p.2)
def gOrV (ga gb : Md D) : Md D := fun ρ => (ga ρ).bind fun p => (bOf p.1).bind fun b => if b = true then some (.bool true, p.2) else gb p.2
def gNotV (ga : Md D) : Md D := fun ρ => (ga ρ).bind fun p => (bOf p.1).bind fun b => some (.bool (!b), p.2)
def gIfE (gc : Md Bool) (ga gb : Md D) : Md D := fun ρ => (gc ρ).bind fun p => if p.1 = true then ga p.2 else gb p.2
def gNil : Md (List D) := fun ρ => some ([], ρ)
def gCons (g : Md D) (gs : Md (List D)) : Md (List D) := fun ρ => (g ρ).bind fun p => (gs p.2).bind fun q => some (p.1 :: q.1, q.2)
def gApp (f : List D → Option D) (gs : Md (List D)) : Md D := fun ρ => (gs ρ).bind fun p => (f p.1).bind fun r => some (r, p.2)

section
variable {X : Cx} {a b c e : Expr} {es : List Expr} {pos : Pos}

theorem st_owned {K : PySem.W.Frag} {F H : Hp} {σ : L2.St} {ρ : Env} {i : Nat} {f : Bool} {d : D} (s : St K F H σ ρ) (e : ρ[i]? = some (some (.own f d))) : ∃ a, σ[i]? = some (some (.ref a)) ∧ OwnAt K F H a d ∧ Owns σ ρ a := by
  obtain ⟨a, e1, h⟩ := s.cell i _ e
  exact ⟨a, e1, h, i, f, d, e, e1⟩
theorem st_val {K : PySem.W.Frag} {F H : Hp} {σ : L2.St} {ρ : Env} {i : Nat} {d : D} (s : St K F H σ ρ) (e : ρ[i]? = some (some (.val d))) : ∃ v, σ[i]? = some (some v) ∧ Rp K F v d := s.cell i _ e

/-- a list of one's own comes to stand for good -/
theorem own_dp {K : PySem.W.Frag} {F H : Hp} {a : Addr} {d : D} (h : OwnAt K F H a d) : ∃ o, H a = some o ∧ Same F (upd F a o) ∧ Rp K (upd F a o) (.ref a) d := by
  obtain ⟨f, xs, ds, rfl, e, r⟩ := h
  exact ⟨_, e, same_new f, .lst (.inl (.inl upd_same)) (dpAll_mono (same_new f) _ _ r)⟩
theorem sub_upd {F H : Hp} {a : Addr} {o : HO} (s : Same F H) (e : H a = some o) : Same (upd F a o) H := fun b x h => by
  by_cases q : b = a
  · subst q
    rw [upd_same] at h
    rw [e]
    exact h
  · rw [upd_ne q] at h
    exact s b x h
theorem own_keep {K : PySem.W.Frag} {F H : Hp} {a b : Addr} {d : D} {o : HO} (h : OwnAt K F H b d) (n : b ≠ a) (hF : F a = none) : OwnAt K (upd F a o) H b d := by
  obtain ⟨f, xs, ds, e, hh, r⟩ := h
  exact ⟨(upd_ne n).trans f, xs, ds, e, hh, dpAll_mono (same_new hF) _ _ r⟩
theorem st_frz {K : PySem.W.Frag} {F H : Hp} {σ : L2.St} {ρ : Env} {a : Addr} {o : HO} (s : St K F H σ ρ) (hF : F a = none) (e : H a = some o) (n : ¬ Owns σ ρ a) : St K (upd F a o) H σ ρ where
  sub := sub_upd s.sub e
  len := s.len
  cell := fun i c h => by
    have q := s.cell i c h
    cases c with
    | val d =>
      obtain ⟨v, e1, r⟩ := q
      exact ⟨v, e1, dp_mono (same_new hF) _ _ r⟩
    | own f d =>
      obtain ⟨b, e1, r⟩ := q
      exact ⟨b, e1, own_keep r (fun z => n (by subst z; exact ⟨i, f, d, h, e1⟩)) hF⟩
  dist := s.dist

theorem get_set_self {α : Type} {l : List α} {i : Nat} {x y : α} (h : l[i]? = some y) : (l.set i x)[i]? = some x := List.getElem?_set_self (List.getElem?_eq_some_iff.mp h).1
theorem get_set_ne {α : Type} {l : List α} {i j : Nat} {x : α} (h : j ≠ i) : (l.set i x)[j]? = l[j]? := List.getElem?_set_ne (Ne.symm h)

theorem df_de {g : Md D} (h : DF X e g) : DE X e g := pe_imp h fun σ H Q q => by
  obtain ⟨F, ρ, d, ρ', s, eg, k⟩ := q
  refine ⟨F, ρ, d, ρ', s, eg, fun a F' H' st s' o n hn => ?_⟩
  obtain ⟨u, eu, sf, r⟩ := own_dp o
  refine k (.ref a) (upd F' a u) H' ⟨st.ff.trans sf, fun b x hb nb => ?_, st.fresh, st.fix, st.dom⟩ (st_frz s' o.1 eu n) r
  obtain ⟨h1, h2⟩ := st.keep b x hb nb
  exact ⟨h1, (upd_ne (ne_of_none hb hn)).trans h2⟩

theorem de_var (i : Nat) {x : Str} (hN : X.N[i]? = some x) (hv : Vis X.env.scope x) (hd : (x == ("__debug__" : Str)) = false := by decide) (hcd : (x == ("__classdict__" : Str)) = false := by decide) : DE X (.Name x pos) (gVar i) :=
  pe_imp (pe_var hN hv hd hcd) fun σ H Q q => by
    obtain ⟨F, ρ, d, ρ', s, eg, k⟩ := q
    unfold gVar at eg
    split at eg
    · rename_i d' h
      cases eg
      obtain ⟨v, e1, r⟩ := st_val s h
      exact ⟨v, e1, k v F H Stp.refl s r⟩
    · cases eg
theorem de_frz (i : Nat) {x : Str} (hN : X.N[i]? = some x) (hv : Vis X.env.scope x) (hd : (x == ("__debug__" : Str)) = false := by decide) (hcd : (x == ("__classdict__" : Str)) = false := by decide) : DE X (.Name x pos) (gFrz i) :=
  pe_imp (pe_var hN hv hd hcd) fun σ H Q q => by
    obtain ⟨F, ρ, d, ρ', s, eg, k⟩ := q
    unfold gFrz at eg
    split at eg
    · rename_i d' h
      cases eg
      obtain ⟨v, e1, r⟩ := st_val s h
      exact ⟨v, e1, k v F H Stp.refl s r⟩
    · rename_i d' h
      cases eg
      obtain ⟨a, e1, r, ow⟩ := st_owned s h
      obtain ⟨u, eu, sf, rd⟩ := own_dp r
      refine ⟨.ref a, e1, k (.ref a) (upd F a u) H ⟨sf, fun b o hb nb => ⟨hb, upd_ne fun z => nb (by subst z; exact ow)⟩, fun b hb => ?_, fun j dj hj => ?_, fun _ o h => ⟨o, h⟩⟩ ?_ rd⟩
      · obtain ⟨j, f, dj, h1, h2⟩ := hb
        by_cases z : j = i
        · subst z
          rw [get_set_self h] at h1
          cases h1
        · rw [get_set_ne z] at h1
          exact .inl ⟨j, f, dj, h1, h2⟩
      · have z : j ≠ i := fun z => by
          subst z
          rw [h] at hj
          cases hj
        exact ⟨rfl, dj, by rw [get_set_ne z]; exact hj⟩
      · refine ⟨sub_upd s.sub eu, by rw [List.length_set]; exact s.len, fun j c hj => ?_, fun j l f g dj dl b h1 h2 h3 h4 => ?_⟩
        · by_cases z : j = i
          · subst z
            rw [get_set_self h] at hj
            cases hj
            exact ⟨.ref a, e1, rd⟩
          · rw [get_set_ne z] at hj
            have q := s.cell j c hj
            cases c with
            | val dj =>
              obtain ⟨v, e2, r2⟩ := q
              exact ⟨v, e2, dp_mono sf _ _ r2⟩
            | own f dj =>
              obtain ⟨b, e2, r2⟩ := q
              exact ⟨b, e2, own_keep r2 (fun y => z (by subst y; exact s.dist j i f false dj _ _ hj h e2 e1)) r.1⟩
        · have z1 : j ≠ i := fun z => by subst z; rw [get_set_self h] at h1; cases h1
          have z2 : l ≠ i := fun z => by subst z; rw [get_set_self h] at h2; cases h2
          rw [get_set_ne z1] at h1
          rw [get_set_ne z2] at h2
          exact s.dist j l f g dj dl b h1 h2 h3 h4
    · cases eg
theorem de_const {t : TE} {d : D} {v : V} (h : PE X e (tC v)) (r : ∀ F, Rp X.K F v d) : DE X e (gC d) := pe_imp h fun σ H Q q => by
  obtain ⟨F, ρ, d', ρ', s, eg, k⟩ := q
  cases eg
  exact k v F H Stp.refl s (r F)
theorem de_int {i : Int} {j : Nat} : DE X (.Constant (.int i) j pos) (gC (.int i)) := de_const (t := tC .non) pe_int fun _ => .int i
theorem de_bl {b : Bool} {j : Nat} : DE X (.Constant (.bool b) j pos) (gC (.bool b)) := de_const (t := tC .non) pe_bl fun _ => .bl b
theorem de_non {j : Nat} : DE X (.Constant .none j pos) (gC .none) := de_const (t := tC .non) pe_non fun _ => .non
theorem de_str {x : Str} {j : Nat} : DE X (.Constant (.str x) j pos) (gC (.str x)) := de_const (t := tC .non) pe_str fun _ => .str x

theorem bind_some {α β : Type} {o : Option α} {f : α → Option β} {r : β} (h : o.bind f = some r) : ∃ a, o = some a ∧ f a = some r := by
  cases o with
  | none => cases h
  | some a => exact ⟨a, rfl, h⟩
theorem dp_bl {K : PySem.W.Frag} {H : Hp} {v : V} {b : Bool} (h : Rp K H v (.bool b)) : v = .bl b := by cases h; rfl
theorem bOf_some {d : D} {b : Bool} (h : bOf d = some b) : d = .bool b := by
  cases d <;> simp [bOf] at h
  subst h
  rfl

/-! ### operators -/
theorem bin_q {r : R2} {f : D → D → Option D} {ga gb : Md D} (hr : r = rP2 X.K f) {σ : L2.St} {H : Hp} {Q : VK} (q : tD X.K (gBin f ga gb) σ H Q) : tOp r (tD X.K ga) (tD X.K gb) σ H Q := by
  subst hr
  obtain ⟨F, ρ, d, ρ', s, eg, k⟩ := q
  obtain ⟨⟨x, ρ1⟩, e1, eg⟩ := bind_some eg
  obtain ⟨⟨y, ρ2⟩, e2, eg⟩ := bind_some eg
  obtain ⟨z, e3, eg⟩ := bind_some eg
  cases eg
  exact ⟨F, ρ, x, ρ1, s, e1, fun v F1 H1 p1 s1 r1 => ⟨F1, ρ1, y, ρ2, s1, e2, fun u F2 H2 p2 s2 r2 => ⟨F2, x, y, _, s2.sub, dp_mono p2.ff _ _ r1, r2, e3, fun w F3 H3 gr rw' =>
    k w F3 H3 (p1.trans (p2.trans (gr.stp σ ρ2))) (s2.grow gr) rw'⟩⟩⟩
theorem de_bin {op : Operator} {f : D → D → Option D} {ga gb : Md D} (ho : OpR X (binaryOp op) (rP2 X.K f)) (ha : DE X a ga) (hb : DE X b gb) : DE X (.BinOp a op b pos) (gBin f ga gb) :=
  pe_imp (pe_op ho ha hb) fun _ _ _ q => bin_q rfl q
theorem de_cmp {op : CmpOp} {f : D → D → Option D} {ga gb : Md D} (ho : OpR X (compareOp op) (rP2 X.K f)) (ha : DE X a ga) (hb : DE X b gb) (hm : behindInMarks op b = false) : DE X (.Compare a [op] [b] pos) (gBin f ga gb) :=
  pe_imp (pe_cmpR ho ha hb hm) fun _ _ _ q => bin_q rfl q
theorem de_ix {f : D → D → Option D} {ga gb : Md D} (ho : IxR X (rP2 X.K f)) (ha : DE X a ga) (hb : DE X b gb) (hs : PlainIx b) : DE X (.Subscript a b pos) (gBin f ga gb) :=
  pe_imp (pe_ix ho ha hb hs) fun _ _ _ q => bin_q rfl q
theorem de_un {op : UnaryOp} {f : D → Option D} {ga : Md D} (ho : UnR X (unaryOp op) (rP1 X.K f)) (ha : DE X a ga) : DE X (.UnaryOp op a pos) (gUn f ga) :=
  pe_imp (pe_un ho ha) fun σ H Q q => by
    obtain ⟨F, ρ, d, ρ', s, eg, k⟩ := q
    obtain ⟨⟨x, ρ1⟩, e1, eg⟩ := bind_some eg
    obtain ⟨z, e3, eg⟩ := bind_some eg
    cases eg
    exact ⟨F, ρ, x, ρ1, s, e1, fun v F1 H1 p1 s1 r1 => ⟨F1, x, _, s1.sub, r1, e3, fun w F3 H3 gr rw' => k w F3 H3 (p1.trans (gr.stp σ ρ1)) (s1.grow gr) rw'⟩⟩
theorem tst_q {g : Md D} {σ : L2.St} {H : Hp} {Q : Bool → Hp → Prop} (q : tDT X.K (gTst g) σ H Q) : tD X.K g σ H (fun x H1 => ∃ k, x = .bl k ∧ Q k H1) := by
  obtain ⟨F, ρ, d, ρ', s, eg, k⟩ := q
  obtain ⟨⟨x, ρ1⟩, e1, eg⟩ := bind_some eg
  obtain ⟨z, e3, eg⟩ := bind_some eg
  cases eg
  refine ⟨F, ρ, x, _, s, e1, fun v F1 H1 p1 s1 r1 => ⟨d, ?_, k F1 H1 p1 s1⟩⟩
  have e : x = .bool d := bOf_some e3
  subst e
  exact dp_bl r1
theorem dt_cmp {op : CmpOp} {f : D → D → Option D} {ga gb : Md D} (ho : OpR X (compareOp op) (rP2 X.K f)) (ha : DE X a ga) (hb : DE X b gb) (hm : behindInMarks op b = false) : DT X (.Compare a [op] [b] pos) (gTst (gBin f ga gb)) :=
  pt_imp (pt_cmpR ho ha hb hm) fun σ H Q q => bin_q rfl (tst_q q)
theorem chain_q {f f' : D → D → Option D} {ga gb gc : Md D} {σ : L2.St} {H : Hp} {Q : VK} (q : tD X.K (gChain f f' ga gb gc) σ H Q) : tChain (rP2 X.K f) (rP2 X.K f') (tD X.K ga) (tD X.K gb) (tD X.K gc) σ H Q := by
  obtain ⟨F, ρ, d, ρ', s, eg, k⟩ := q
  obtain ⟨⟨x, ρ1⟩, e1, eg⟩ := bind_some eg
  obtain ⟨⟨y, ρ2⟩, e2, eg⟩ := bind_some eg
  obtain ⟨z, e3, eg⟩ := bind_some eg
  obtain ⟨t, e4, eg4⟩ := bind_some eg
  clear eg
  have e5 : z = .bool t := bOf_some e4
  subst e5
  refine ⟨F, ρ, x, ρ1, s, e1, fun v F1 H1 p1 s1 r1 => ⟨F1, ρ1, y, ρ2, s1, e2, fun u F2 H2 p2 s2 r2 => ⟨F2, x, y, _, s2.sub, dp_mono p2.ff _ _ r1, r2, e3, fun w F3 H3 gr rw' => ⟨t, dp_bl rw', ?_⟩⟩⟩⟩
  have p3 := p1.trans (p2.trans (gr.stp σ ρ2))
  cases t with
  | true =>
    rw [if_pos rfl] at eg4 ⊢
    obtain ⟨⟨m, ρ3⟩, e6, eg5⟩ := bind_some eg4
    obtain ⟨n, e7, eg6⟩ := bind_some eg5
    cases eg6
    exact ⟨F3, ρ2, m, ρ3, s2.grow gr, e6, fun v4 F4 H4 p4 s4 r4 => ⟨F4, y, m, _, s4.sub, dp_mono (gr.ff.trans p4.ff) _ _ r2, r4, e7, fun v5 F5 H5 gr5 r5 =>
      k v5 F5 H5 (p3.trans (p4.trans (gr5.stp σ ρ3))) (s4.grow gr5) r5⟩⟩
  | false =>
    rw [if_neg Bool.false_ne_true] at eg4 ⊢
    cases eg4
    exact k (.bl false) F3 H3 p3 (s2.grow gr) (.bl false)
theorem de_chain {op op' : CmpOp} {f f' : D → D → Option D} {ga gb gc : Md D} (ho : OpR X (compareOp op) (rP2 X.K f)) (ho' : OpR X (compareOp op') (rP2 X.K f')) (ha : DE X a ga) (hb : DE X b gb) (hc : DE X c gc) (hm : lastMarks [op, op'] [b, c] = false := by with_unfolding_all rfl) : DE X (.Compare a [op, op'] [b, c] pos) (gChain f f' ga gb gc) :=
  pe_imp (pe_chain ho ho' ha hb hc hm) fun _ _ _ q => chain_q q
theorem dt_chain {op op' : CmpOp} {f f' : D → D → Option D} {ga gb gc : Md D} (ho : OpR X (compareOp op) (rP2 X.K f)) (ho' : OpR X (compareOp op') (rP2 X.K f')) (ha : DE X a ga) (hb : DE X b gb) (hc : DE X c gc) (hm : lastMarks [op, op'] [b, c] = false := by with_unfolding_all rfl) : DT X (.Compare a [op, op'] [b, c] pos) (gTst (gChain f f' ga gb gc)) :=
  pt_imp (pt_chain ho ho' ha hb hc hm) fun _ _ _ q => chain_q (tst_q q)

/-! ### and, or, not, if -/
theorem dt_and {ga gb : Md Bool} {rest : List Expr} (ha : DT X a ga) (hb : DW X (.BoolOp .And (b :: rest) pos) gb) : DW X (.BoolOp .And (a :: b :: rest) pos) (gAnd ga gb) :=
  pw_imp (pw_and ha hb) fun σ H Q q => by
    obtain ⟨F, ρ, d, ρ', s, eg, k⟩ := q
    obtain ⟨⟨x, ρ1⟩, e1, eg⟩ := bind_some eg
    refine ⟨F, ρ, x, ρ1, s, e1, fun F1 H1 p1 s1 => ?_⟩
    cases x with
    | true => exact ⟨F1, ρ1, d, ρ', s1, eg, fun F2 H2 p2 s2 => k F2 H2 (p1.trans p2) s2⟩
    | false =>
      cases eg
      exact k F1 H1 p1 s1
theorem dt_or {ga gb : Md Bool} {rest : List Expr} (ha : DT X a ga) (hb : DW X (.BoolOp .Or (b :: rest) pos) gb) : DW X (.BoolOp .Or (a :: b :: rest) pos) (gOr ga gb) :=
  pw_imp (pw_or ha hb) fun σ H Q q => by
    obtain ⟨F, ρ, d, ρ', s, eg, k⟩ := q
    obtain ⟨⟨x, ρ1⟩, e1, eg⟩ := bind_some eg
    refine ⟨F, ρ, x, ρ1, s, e1, fun F1 H1 p1 s1 => ?_⟩
    cases x with
    | false => exact ⟨F1, ρ1, d, ρ', s1, eg, fun F2 H2 p2 s2 => k F2 H2 (p1.trans p2) s2⟩
    | true =>
      cases eg
      exact k F1 H1 p1 s1
theorem dt_and1 {ga : Md Bool} (ha : DT X a ga) : DW X (.BoolOp .And [a] pos) ga := pw_and1 ha
theorem dt_or1 {ga : Md Bool} (ha : DT X a ga) : DW X (.BoolOp .Or [a] pos) ga := pw_or1 ha
theorem dt_bool {op : BoolOp} {ga : Md Bool} (h : DW X (.BoolOp op es pos) ga) : DT X (.BoolOp op es pos) ga := h.pt
theorem dt_not {ga : Md Bool} (ha : DT X a ga) : DT X (.UnaryOp .Not a pos) (gNot ga) :=
  pt_imp (pt_not ha) fun σ H Q q => by
    obtain ⟨F, ρ, d, ρ', s, eg, k⟩ := q
    obtain ⟨⟨x, ρ1⟩, e1, eg⟩ := bind_some eg
    cases eg
    exact ⟨F, ρ, x, _, s, e1, fun F1 H1 p1 s1 => k F1 H1 p1 s1⟩
/-- an expression that tells True or False, as a test -/
theorem dt_val {g : Md D} (h : DE X e g) (he : ∀ whole, isTrue e X.env whole = (do let v ← whole; standAt e.pos; holding [v] (truthy v)) := by intro _; rfl) : DT X e (gTst g) :=
  pt_imp (pt_val h he) fun σ H Q q => tst_q q
theorem de_and {ga gb : Md D} {rest : List Expr} (ha : DE X a ga) (hb : DE X (.BoolOp .And (b :: rest) pos) gb) : DE X (.BoolOp .And (a :: b :: rest) pos) (gAndV ga gb) :=
  pe_imp (pe_and ha hb) fun σ H Q q => by
    obtain ⟨F, ρ, d, ρ', s, eg, k⟩ := q
    obtain ⟨⟨x, ρ1⟩, e1, eg⟩ := bind_some eg
    obtain ⟨z, e3, eg⟩ := bind_some eg
    have e5 := bOf_some e3
    refine ⟨F, ρ, x, ρ1, s, e1, fun v F1 H1 p1 s1 r1 => ⟨z, by subst e5; exact dp_bl r1, ?_⟩⟩
    cases z with
    | true => exact ⟨F1, ρ1, d, ρ', s1, eg, fun u F2 H2 p2 s2 => k u F2 H2 (p1.trans p2) s2⟩
    | false =>
      cases eg
      exact k _ F1 H1 p1 s1 (.bl false)
theorem de_or {ga gb : Md D} {rest : List Expr} (ha : DE X a ga) (hb : DE X (.BoolOp .Or (b :: rest) pos) gb) : DE X (.BoolOp .Or (a :: b :: rest) pos) (gOrV ga gb) :=
  pe_imp (pe_or ha hb) fun σ H Q q => by
    obtain ⟨F, ρ, d, ρ', s, eg, k⟩ := q
    obtain ⟨⟨x, ρ1⟩, e1, eg⟩ := bind_some eg
    obtain ⟨z, e3, eg⟩ := bind_some eg
    have e5 := bOf_some e3
    refine ⟨F, ρ, x, ρ1, s, e1, fun v F1 H1 p1 s1 r1 => ⟨z, by subst e5; exact dp_bl r1, ?_⟩⟩
    cases z with
    | false => exact ⟨F1, ρ1, d, ρ', s1, eg, fun u F2 H2 p2 s2 => k u F2 H2 (p1.trans p2) s2⟩
    | true =>
      cases eg
      exact k _ F1 H1 p1 s1 (.bl true)
theorem de_one {op : BoolOp} {ga : Md D} (h : DE X a ga) : DE X (.BoolOp op [a] pos) ga := pe_one h
theorem de_not {ga : Md D} (ha : DE X a ga) : DE X (.UnaryOp .Not a pos) (gNotV ga) :=
  pe_imp (pe_not ha) fun σ H Q q => by
    obtain ⟨F, ρ, d, ρ', s, eg, k⟩ := q
    obtain ⟨⟨x, ρ1⟩, e1, eg⟩ := bind_some eg
    obtain ⟨z, e3, eg⟩ := bind_some eg
    have e5 := bOf_some e3
    cases eg
    exact ⟨F, ρ, x, _, s, e1, fun v F1 H1 p1 s1 r1 => ⟨z, by subst e5; exact dp_bl r1, k _ F1 H1 p1 s1 (.bl _)⟩⟩
theorem de_ifE {gc : Md Bool} {ga gb : Md D} (hc : DT X c gc) (ha : DE X a ga) (hb : DE X b gb) : DE X (.IfExp c a b pos) (gIfE gc ga gb) :=
  pe_imp (pe_ifExp hc ha hb) fun σ H Q q => by
    obtain ⟨F, ρ, d, ρ', s, eg, k⟩ := q
    obtain ⟨⟨x, ρ1⟩, e1, eg⟩ := bind_some eg
    refine ⟨F, ρ, x, ρ1, s, e1, fun F1 H1 p1 s1 => ?_⟩
    cases x with
    | true => exact ⟨F1, ρ1, d, ρ', s1, eg, fun u F2 H2 p2 s2 => k u F2 H2 (p1.trans p2) s2⟩
    | false => exact ⟨F1, ρ1, d, ρ', s1, eg, fun u F2 H2 p2 s2 => k u F2 H2 (p1.trans p2) s2⟩

/-! ### argument lists, displays, calls -/
theorem da_nl : DA X [] gNil := pa_imp pa_nil fun σ H Q q => by
  obtain ⟨F, ρ, d, ρ', s, eg, k⟩ := q
  cases eg
  exact k [] F H Stp.refl s .nil
theorem da_cs {g : Md D} {gs : Md (List D)} (ha : DE X e g) (hr : DA X es gs) (hs : starEach (e :: es) X.env = (false, eval e X.env) :: starEach es X.env := by rfl) : DA X (e :: es) (gCons g gs) :=
  pa_imp (pa_cons ha hr hs) fun σ H Q q => by
    obtain ⟨F, ρ, d, ρ', s, eg, k⟩ := q
    obtain ⟨⟨x, ρ1⟩, e1, eg⟩ := bind_some eg
    obtain ⟨⟨y, ρ2⟩, e2, eg⟩ := bind_some eg
    cases eg
    exact ⟨F, ρ, x, ρ1, s, e1, fun v F1 H1 p1 s1 r1 => ⟨F1, ρ1, y, _, s1, e2, fun u F2 H2 p2 s2 r2 => k (v :: u) F2 H2 (p1.trans p2) s2 (.cons (dp_mono p2.ff _ _ r1) r2)⟩⟩
def mkTup (ds : List D) : Option D := if ds.length ≤ 16777216 then some (.tuple ds) else none
def mkLst (ds : List D) : Option D := if ds.length ≤ 16777216 then some (.list ds) else none
theorem line_eq : sizeLine = 16777216 := sizeLine_eq
theorem de_tup {gs : Md (List D)} {k : Nat} (h : DA X es gs) : DE X (.Tuple es k pos) (gApp mkTup gs) :=
  pe_imp (pe_tup h) fun σ H Q q => by
    obtain ⟨F, ρ, d, ρ', s, eg, k⟩ := q
    obtain ⟨⟨x, ρ1⟩, e1, eg⟩ := bind_some eg
    obtain ⟨z, e3, eg⟩ := bind_some eg
    cases eg
    unfold mkTup at e3
    split at e3
    · rename_i hl
      cases e3
      refine ⟨F, ρ, x, ρ1, s, e1, fun vs F1 H1 p1 s1 r1 => ⟨by rw [line_eq, da_len r1]; exact hl, fun p hp => ?_⟩⟩
      have gr : Grow F1 H1 (upd F1 p (.tup vs)) (upd H1 p (.tup vs)) := Grow.val s1.sub hp
      exact k _ _ _ (p1.trans (gr.stp σ ρ1)) (s1.grow gr) (.tup (.inl (.inl upd_same)) (dpAll_mono gr.ff _ _ r1))
    · cases e3
theorem own_new {K : PySem.W.Frag} {F H : Hp} {p : Addr} {vs : List V} {ds : List D} (s : Same F H) (hp : H p = none) (r : RpAll K F vs ds) : OwnAt K F (upd H p (.lst vs)) p (.list ds) := ⟨none_sub s hp, vs, ds, rfl, upd_same, r⟩
theorem not_owns {K : PySem.W.Frag} {F H : Hp} {σ : L2.St} {ρ : Env} {p : Addr} (s : St K F H σ ρ) (hp : H p = none) : ¬ Owns σ ρ p := fun z => by
  obtain ⟨_, u, e⟩ := s.free z
  rw [hp] at e
  cases e
theorem df_lst {gs : Md (List D)} (h : DA X es gs) : DF X (.List es pos) (gApp mkLst gs) :=
  pe_imp (pe_lst h) fun σ H Q q => by
    obtain ⟨F, ρ, d, ρ', s, eg, k⟩ := q
    obtain ⟨⟨x, ρ1⟩, e1, eg⟩ := bind_some eg
    obtain ⟨z, e3, eg⟩ := bind_some eg
    cases eg
    unfold mkLst at e3
    split at e3
    · rename_i hl
      cases e3
      refine ⟨F, ρ, x, ρ1, s, e1, fun vs F1 H1 p1 s1 r1 => ⟨by rw [line_eq, da_len r1]; exact hl, fun p hp => ?_⟩⟩
      have gr : Grow F1 H1 F1 (upd H1 p (.lst vs)) := Grow.own s1.sub hp
      exact k p _ _ (p1.trans (gr.stp σ ρ1)) (s1.grow gr) (own_new s1.sub hp r1) (not_owns s1 hp) (p1.none hp)
    · cases e3
end
end Dn
set_option maxHeartbeats 2000000
/-! a < b of data whose first places that differ can be compared -/
namespace DnLt
open PySem PySem.SeqAt PyProof.Rows
open AutoSeq1 (wpAny_loadPart')
open MeetsSeq MeetsSeq2 MeetsSeq3 SeqRoads2

def LtAt (A : Around) (s : Shared) : List Value → List Value → Bool → Prop
  | [], [], k => k = false
  | [], _ :: _, k => k = true
  | _ :: _, [], k => k = false
  | v :: vs, w :: ws, k => (EqAt A s v w true ∧ LtAt A s vs ws k) ∨ (EqAt A s v w false ∧ RcLt A s v w k)
theorem ltAt_end {A : Around} {s : Shared} {vs ws : List Value} {k : Bool} (h : LtAt A s vs ws k) (e : vs.zip ws = []) : k = decide (vs.length < ws.length) := by
  cases vs with
  | nil =>
    cases ws with
    | nil => exact h
    | cons w ws =>
      have h1 : k = true := h
      rw [h1]
      exact (decide_eq_true (Nat.succ_pos _)).symm
  | cons v vs =>
    cases ws with
    | nil =>
      have h1 : k = false := h
      rw [h1]
      exact (decide_eq_false (Nat.not_lt_zero _)).symm
    | cons w ws => cases e

theorem tup_meets (l b : Addr) (xs ys : Array Value) (n n2 : Nat) (dd dd2 : Option Addr) (sl sl2 : Array (Option Value)) (k : Bool) :
    Meets (Builtin.«tuple.__lt__» ⟨[.ref l, .ref b], []⟩)
      (fun A R s => (s.heap.get? l = some { cls := .type "tuple", dict := dd, data := .seq xs n, slots := sl } ∧ s.heap.get? b = some { cls := .type "tuple", dict := dd2, data := .seq ys n2, slots := sl2 }) ∧
        LtAt A.in1 s xs.toList ys.toList k ∧ R (.ok (.ret (.bool k))) s) :=
  .of_wp fun prog w A R s h => by
    obtain ⟨hp, gn, dw, tk, os⟩ := s
    obtain ⟨⟨hl, hb⟩, hk, hR⟩ := h
    have f2 := AutoSeq1.sub_tuple_tuple
    wp_walk using wpAny_loadPart' hl, wpAny_loadPart' hb, wpAny_forIn_list _ (fun rest q s' => q.1 = none ∧ s' = ⟨hp, gn, dw, tk, os⟩ ∧ ∃ vs ws, rest = vs.zip ws ∧ LtAt A.in1 ⟨hp, gn, dw, tk, os⟩ vs ws k ∧
      decide (vs.length < ws.length) = decide (xs.size < ys.size)) _
    case turn =>
      rintro ⟨y, x⟩ rest q s' ⟨hq, rfl, vs, ws, hz, hk2, hs⟩
      cases vs with
      | nil => cases hz
      | cons v vs =>
        cases ws with
        | nil => cases hz
        | cons u ws =>
          rw [List.zip_cons_cons] at hz
          injection hz with h1 h2
          injection h1 with h3 h4
          subst h3 h4 h2
          have hs2 : decide (vs.length < ws.length) = decide (xs.size < ys.size) := by
            rw [← hs]
            simp
          rcases hk2 with ⟨e1, e2⟩ | ⟨e1, e2⟩
          · refine wpAny_bind (e1 prog w _ _ ?_)
            wp_walk
            exact ⟨rfl, rfl, vs, ws, rfl, e2, hs2⟩
          · refine wpAny_bind (e1 prog w _ _ ?_)
            have e3 := e2 prog w
            generalize PySem.richCompare = rc at e3 ⊢
            wp_walk
            refine e3 _ _ ?_
            wp_walk
            exact ⟨_, rfl, hR⟩
    case fin =>
      rintro ⟨q1, q2⟩ s' ⟨hq, rfl, vs, ws, hz, hk2, hs⟩
      simp only at hq
      subst hq
      have e := ltAt_end hk2 hz.symm
      rw [hs] at e
      wp_walk
      refine ⟨_, rfl, ?_⟩
      rw [e] at hR
      simpa [Builtin.Tuple.tupleCompareSizes] using hR
    case h =>
      exact ⟨rfl, rfl, xs.toList, ys.toList, by simp, hk, by simp⟩

theorem tup_lt {A : Around} {s : Shared} {l b : Addr} {xs ys : Array Value} {k : Bool} (hl : s.heap.IsTuple l xs) (hb : s.heap.IsTuple b ys) (hu : A.units < cLine) (h : LtAt A.in1 s xs.toList ys.toList k) : RcLt A s (.ref l) (.ref b) k := fun prog w E Q q => by
  obtain ⟨⟨c1, d1, a1, s1⟩, ho, hc, n, hd⟩ := id hl
  obtain ⟨⟨c2, d2, a2, s2⟩, ho2, hc2, n2, hd2⟩ := id hb
  simp only at hc hd hc2 hd2
  subst hc hd hc2 hd2
  refine richCompare_meets_room (op := .Lt) ⟨_, ho, rfl⟩ ⟨_, ho2, rfl⟩ F.slot_tuple_lt F.entry_tuple_lt (F.args_tuple_lt_2 _ _) (tup_meets l b xs ys n n2 d1 d2 s1 s2 k) ⟨⟨ho, ho2⟩, h, ?_⟩ hu
  exact (⟨(fun x => nomatch x), q⟩ : Value.bool k ≠ Value.notImplemented ∧ Q (.bool k) s)

mutual
/-- x < y, where it can be said -/
def ltB : PyData → PyData → Option Bool
  | .int a, .int b => some (decide (a < b))
  | .str a, .str b => some (decide (a.cps.toList < b.cps.toList))
  | .bool a, .bool b => some (!a && b)
  | .tuple xs, .tuple ys => ltA xs ys
  | _, _ => none
def ltA : List PyData → List PyData → Option Bool
  | [], [] => some false
  | [], _ :: _ => some true
  | _ :: _, [] => some false
  | x :: xs, y :: ys => if PyData.eqv x y = true then ltA xs ys else ltB x y
end
theorem units_in1 (A : Around) : A.in1.units = A.units + 1 := rfl
mutual
theorem rc_lt : ∀ (x y : PyData) (A : Around) (s : Shared) (a b : Value) (as bs : List Addr) (k : Bool), Reads s.heap a x as → Reads s.heap b y bs → ltB x y = some k → x.canLay0 = true → y.canLay0 = true → A.units + x.depth < cLine → RcLt A s a b k
  | .int i, y, A, s, a, b, as, bs, k, ra, rb, h, _, _, _ => by
    cases y <;> simp only [ltB, reduceCtorEq, Option.some.injEq] at h
    cases ra
    cases rb
    intro prog w E Q q
    rw [← h] at q
    exact lt_int q
  | .str i, y, A, s, a, b, as, bs, k, ra, rb, h, _, _, _ => by
    cases y <;> simp only [ltB, reduceCtorEq, Option.some.injEq] at h
    cases ra
    cases rb
    intro prog w E Q q
    rw [← h] at q
    exact lt_str q
  | .bool i, .bool j, A, s, a, b, as, bs, k, ra, rb, h, _, _, _ => by
    simp only [ltB, Option.some.injEq] at h
    cases ra
    cases rb
    intro prog w E Q q
    rw [← h] at q
    have e : (!i && j) = decide ((if i then (1 : Int) else 0) < (if j then 1 else 0)) := by cases i <;> cases j <;> rfl
    rw [e] at q
    exact lt_bool q
  | .bool _, .none, _, _, _, _, _, _, _, _, _, h, _, _, _ => by simp [ltB] at h
  | .bool _, .int _, _, _, _, _, _, _, _, _, _, h, _, _, _ => by simp [ltB] at h
  | .bool _, .str _, _, _, _, _, _, _, _, _, _, h, _, _, _ => by simp [ltB] at h
  | .bool _, .list _, _, _, _, _, _, _, _, _, _, h, _, _, _ => by simp [ltB] at h
  | .bool _, .tuple _, _, _, _, _, _, _, _, _, _, h, _, _, _ => by simp [ltB] at h
  | .bool _, .dict _, _, _, _, _, _, _, _, _, _, h, _, _, _ => by simp [ltB] at h
  | .tuple xs, y, A, s, a, b, as, bs, k, ra, rb, h, c1, c2, hu => by
    cases y <;> simp [ltB] at h
    rename_i ys
    cases ra with
    | tuple k1 k2 k3 k4 =>
      cases rb with
      | tuple m1 m2 m3 m4 =>
        have hd : A.units + (PyData.depthAll xs + 1) < cLine := by simpa [PyData.depth] using hu
        exact tup_lt ⟨_, k1, k2, _, k3⟩ ⟨_, m1, m2, _, m3⟩ (by omega) (rc_ltA xs ys A.in1 s _ _ _ _ k k4 m4 h (by simpa [PyData.canLay0] using c1) (by simpa [PyData.canLay0] using c2) (by rw [units_in1]; omega))
  | .none, y, _, _, _, _, _, _, _, _, _, h, _, _, _ => by cases y <;> simp [ltB] at h
  | .list _, y, _, _, _, _, _, _, _, _, _, h, _, _, _ => by cases y <;> simp [ltB] at h
  | .dict _, y, _, _, _, _, _, _, _, _, _, h, _, _, _ => by cases y <;> simp [ltB] at h
theorem rc_ltA : ∀ (xs ys : List PyData) (A : Around) (s : Shared) (vs ws : List Value) (as bs : List Addr) (k : Bool), ReadsAll s.heap vs xs as → ReadsAll s.heap ws ys bs → ltA xs ys = some k → PyData.canLayAll0 xs = true → PyData.canLayAll0 ys = true →
    A.units + PyData.depthAll xs < cLine → LtAt A s vs ws k
  | [], [], A, s, _, _, _, _, k, ra, rb, h, _, _, _ => by
    cases ra
    cases rb
    simp only [ltA, Option.some.injEq] at h
    exact (show k = false from h.symm)
  | [], _ :: _, A, s, _, _, _, _, k, ra, rb, h, _, _, _ => by
    cases ra
    cases rb
    simp only [ltA, Option.some.injEq] at h
    exact (show k = true from h.symm)
  | _ :: _, [], A, s, _, _, _, _, k, ra, rb, h, _, _, _ => by
    cases ra
    cases rb
    simp only [ltA, Option.some.injEq] at h
    exact (show k = false from h.symm)
  | x :: xs, y :: ys, A, s, _, _, _, _, k, ra, rb, h, c1, c2, hu => by
    have d1 : x.canLay0 = true ∧ PyData.canLayAll0 xs = true := by simpa [PyData.canLayAll0] using c1
    have d2 : y.canLay0 = true ∧ PyData.canLayAll0 ys = true := by simpa [PyData.canLayAll0] using c2
    have hd : A.units + max x.depth (PyData.depthAll xs) < cLine := by simpa [PyData.depthAll] using hu
    cases ra with
    | cons r rs =>
      cases rb with
      | cons t ts =>
        have e := eqAt_reads x y A s _ _ _ _ r t d1.1 d2.1 (by omega)
        rw [ltA] at h
        by_cases q : PyData.eqv x y = true
        · rw [if_pos q] at h
          rw [q] at e
          exact .inl ⟨e, rc_ltA xs ys A s _ _ _ _ k rs ts h d1.2 d2.2 (by omega)⟩
        · rw [if_neg q] at h
          have q' : PyData.eqv x y = false := by simpa using q
          rw [q'] at e
          exact .inr ⟨e, rc_lt x y A s _ _ _ _ k r t h d1.1 d2.1 (by omega)⟩
end
end DnLt
set_option maxHeartbeats 2000000
/-! operators and built-ins over data -/
namespace Dn
open PySem PySem.Spec PyProof.Rows L2

def big (n : Nat) : Bool := decide (n ≤ 16777216)
def addD : D → D → Option D
  | .int i, .int j => some (.int (i + j))
  | .str a, .str b => if a.length + b.length ≤ 16777216 then some (.str (a ++ b)) else none
  | .list a, .list b => if a.length + b.length ≤ 16777216 then some (.list (a ++ b)) else none
  | .tuple a, .tuple b => if a.length + b.length ≤ 16777216 then some (.tuple (a ++ b)) else none
  | _, _ => none
def subD : D → D → Option D
  | .int i, .int j => some (.int (i - j))
  | _, _ => none
def mulD : D → D → Option D
  | .int i, .int j => if i.natAbs.log2 + j.natAbs.log2 < 1000000 then some (.int (i * j)) else none
  | _, _ => none
/-- a product with a factor of less than 64 bits -/
def mulS : D → D → Option D
  | .int i, .int j => if -(2 ^ 64) < j ∧ j < 2 ^ 64 then some (.int (i * j)) else none
  | _, _ => none
def modD : D → D → Option D
  | .int i, .int j => if 0 < j then some (.int (i % j)) else none
  | _, _ => none
def fdivD : D → D → Option D
  | .int i, .int j => if 0 < j ∧ j < 18446744073709551616 then some (.int (i / j)) else none
  | _, _ => none
def negD : D → Option D
  | .int i => some (.int (-i))
  | _ => none
/-- the same, as Python's == says it -/
def eqT (d e : D) : Option Bool := match d, e with
  | .int a, .int b => some (decide (a = b))
  | .str a, .str b => some (decide (a = b))
  | .bool a, .bool b => some (decide (a = b))
  | .none, .none => some true
  | d, e => if SeqAt.shaped d = true ∧ SeqAt.shaped e = true then some (PyData.eqv d e) else none
def eqD (d e : D) : Option D := (eqT d e).bind fun b => some (.bool b)
def neD (d e : D) : Option D := (eqT d e).bind fun b => some (.bool (!b))
def ltT (d e : D) : Option Bool := match d, e with
  | .int a, .int b => some (decide (a < b))
  | .str a, .str b => some (decide (a.cps.toList < b.cps.toList))
  | d, e => if SeqAt.shaped d = true ∧ SeqAt.shaped e = true then DnLt.ltB d e else none
def ltD (d e : D) : Option D := (ltT d e).bind fun b => some (.bool b)
def leD : D → D → Option D
  | .int a, .int b => some (.bool (decide (a ≤ b)))
  | _, _ => none
def gtD : D → D → Option D
  | .int a, .int b => some (.bool (decide (b < a)))
  | _, _ => none
def geD : D → D → Option D
  | .int a, .int b => some (.bool (decide (b ≤ a)))
  | _, _ => none
def isN : D → Bool
  | .none => true
  | _ => false
def isD (d e : D) : Option D := match d, e with
  | d, .none => some (.bool (isN d))
  | .bool a, .bool b => some (.bool (decide (a = b)))
  | _, _ => none
def isntD (d e : D) : Option D := match d, e with
  | d, .none => some (.bool (!isN d))
  | .bool a, .bool b => some (.bool (!decide (a = b)))
  | _, _ => none

section
variable {X : Cx}
theorem r2_int {f : D → D → Option D} {x y : V} {H : Hp} {Q : VK} (h : rP2 X.K f x y H Q) {i j : Int} (hx : x = .int i) (hy : y = .int j) {v : V} {r : D} (e : f (.int i) (.int j) = some r) (hv : ∀ F, Rp X.K F v r) : Q v H := by
  subst hx hy
  obtain ⟨F, d, e', r', s, hd, he, ef, k⟩ := h
  cases hd
  cases he
  rw [e] at ef
  cases ef
  exact k v F H (Grow.refl s) (hv F)
theorem dp_ii {K : PySem.W.Frag} {F : Hp} {x y : V} {i j : Int} (hx : Rp K F x (.int i)) (hy : Rp K F y (.int j)) : x = .int i ∧ y = .int j := by
  cases hx
  cases hy
  exact ⟨rfl, rfl⟩
theorem op_addD : OpR X (binaryOp .Add) (rP2 X.K addD) := by
  intro pins s σ H x y v u Q I rx ry h
  obtain ⟨F, d, e, r, sf, hd, he, ef, k⟩ := h
  unfold addD at ef
  split at ef
  · cases ef
    cases hd
    cases he
    exact op_add pins s σ H _ _ v u Q I rx ry ⟨_, _, rfl, rfl, k _ F H (Grow.refl sf) (.int _)⟩
  · split at ef
    · rename_i hl
      cases ef
      cases hd
      cases he
      exact op_add_str pins s σ H _ _ v u Q I rx ry ⟨_, _, rfl, rfl, by rw [line_eq]; exact hl, k _ F H (Grow.refl sf) (.str _)⟩
    · cases ef
  · split at ef
    · rename_i as bs hl
      cases ef
      cases hd with
      | lst h1 d1 =>
        cases he with
        | lst h2 d2 =>
          cases rx
          cases ry
          rename_i l xs b ys
          obtain ⟨its, r1, p1, z1⟩ := I.list (sf.seq h1)
          obtain ⟨its2, r2, p2, z2⟩ := I.list (sf.seq h2)
          obtain ⟨o1, n1, g1, c1, q1, t1⟩ := p1
          obtain ⟨o2, n2, g2, c2, q2, t2⟩ := p2
          obtain ⟨cls, dd, data, sl⟩ := o1
          obtain ⟨cls2, dd2, data2, sl2⟩ := o2
          simp only at c1 q1 t1 c2 q2 t2
          subst c1 q1 t1 c2 q2 t2
          have hsz : xs.length + ys.length ≤ sizeLine := by rw [line_eq, da_len d1, da_len d2]; exact hl
          refine concat_meets ⟨_, g1, rfl⟩ ⟨_, g2, rfl⟩ noFill_list_add seq_list_add PySem.F.slot_list_add PySem.F.entry_list_add (PySem.F.args_list_add_2 _ _)
            (list_addW l b its.toArray its2.toArray n1 n2 none none sl sl2 (by simpa [← r1.length, ← r2.length] using hsz)) ⟨g1, g2, ?_⟩
          have ea : its.toArray ++ its2.toArray = (its ++ its2).toArray := by simp
          rw [ea]
          have gr : Grow F H (upd F s.heap.objs.size (.lst (xs ++ ys))) (upd H s.heap.objs.size (.lst (xs ++ ys))) := Grow.val sf I.fresh
          exact ⟨.ref _, _, I.lnew (t' := s.toks) (r1.append r2) (by rw [List.length_append]; exact hsz), rfl, k _ _ _ gr (.lst (.inl (.inl upd_same)) (dpAll_mono gr.ff _ _ (da_app d1 d2)))⟩
    · cases ef
  · split at ef
    · rename_i as bs hl
      cases ef
      cases hd with
      | tup h1 d1 =>
        cases he with
        | tup h2 d2 =>
          rename_i a xs b ys
          have hsz : xs.length + ys.length ≤ sizeLine := by rw [line_eq, da_len d1, da_len d2]; exact hl
          refine op_catA pins s σ H _ _ v u Q I rx ry ⟨a, b, xs, ys, rfl, rfl, seqT_same sf h1, seqT_same sf h2, hsz, fun e => ?_, fun _ e => ?_, fun _ _ p hp => ?_⟩
          · subst e
            cases d1
            exact k _ F H (Grow.refl sf) (.tup h2 d2)
          · subst e
            cases d2
            rw [List.append_nil] at k
            exact k _ F H (Grow.refl sf) (.tup h1 d1)
          · have gr : Grow F H (upd F p (.tup (xs ++ ys))) (upd H p (.tup (xs ++ ys))) := Grow.val sf hp
            exact k _ _ _ gr (.tup (.inl (.inl upd_same)) (dpAll_mono gr.ff _ _ (da_app d1 d2)))
    · cases ef
  · cases ef
theorem op_subD : OpR X (binaryOp .Sub) (rP2 X.K subD) := by
  intro pins s σ H x y v u Q I rx ry h
  obtain ⟨F, d, e, r, sf, hd, he, ef, k⟩ := h
  unfold subD at ef
  split at ef
  · cases ef
    cases hd
    cases he
    exact op_sub pins s σ H _ _ v u Q I rx ry ⟨_, _, rfl, rfl, k _ F H (Grow.refl sf) (.int _)⟩
  · cases ef
theorem op_mulD : OpR X (binaryOp .Mult) (rP2 X.K mulD) := by
  intro pins s σ H x y v u Q I rx ry h
  obtain ⟨F, d, e, r, sf, hd, he, ef, k⟩ := h
  unfold mulD at ef
  split at ef
  · split at ef
    · rename_i hl
      cases ef
      cases hd
      cases he
      exact op_mulW pins s σ H _ _ v u Q I rx ry ⟨_, _, rfl, rfl, hl, k _ F H (Grow.refl sf) (.int _)⟩
    · cases ef
  · cases ef
theorem op_mulS : OpR X (binaryOp .Mult) (rP2 X.K mulS) := by
  intro pins s σ H x y v u Q I rx ry h
  obtain ⟨F, d, e, r, sf, hd, he, ef, k⟩ := h
  unfold mulS at ef
  split at ef
  · split at ef
    · rename_i hl
      cases ef
      cases hd
      cases he
      exact op_mul pins s σ H _ _ v u Q I rx ry ⟨_, _, rfl, rfl, .inr hl, k _ F H (Grow.refl sf) (.int _)⟩
    · cases ef
  · cases ef
theorem op_modD : OpR X (binaryOp .Mod) (rP2 X.K modD) := by
  intro pins s σ H x y v u Q I rx ry h
  obtain ⟨F, d, e, r, sf, hd, he, ef, k⟩ := h
  unfold modD at ef
  split at ef
  · split at ef
    · rename_i hl
      cases ef
      cases hd
      cases he
      exact op_mod pins s σ H _ _ v u Q I rx ry ⟨_, _, rfl, rfl, hl, k _ F H (Grow.refl sf) (.int _)⟩
    · cases ef
  · cases ef
theorem log_64 {j : Int} (h0 : 0 < j) (h : j < 18446744073709551616) : j.natAbs.log2 < 9000 := by
  have z : j.natAbs ≠ 0 := by omega
  have h1 : j.natAbs < 2 ^ 64 := by omega
  exact Nat.lt_of_lt_of_le ((Nat.log2_lt z).mpr h1) (by decide)
theorem op_fdivD : OpR X (binaryOp .FloorDiv) (rP2 X.K fdivD) := by
  intro pins s σ H x y v u Q I rx ry h
  obtain ⟨F, d, e, r, sf, hd, he, ef, k⟩ := h
  unfold fdivD at ef
  split at ef
  · split at ef
    · rename_i hl
      cases ef
      cases hd
      cases he
      exact op_fdivW pins s σ H _ _ v u Q I rx ry ⟨_, _, rfl, rfl, ⟨hl.1, log_64 hl.1 hl.2⟩, k _ F H (Grow.refl sf) (.int _)⟩
    · cases ef
  · cases ef
theorem un_negD : UnR X (unaryOp .USub) (rP1 X.K negD) := by
  intro pins s σ H x v Q I rx h
  obtain ⟨F, d, r, sf, hd, ef, k⟩ := h
  unfold negD at ef
  split at ef
  · cases ef
    cases hd
    exact un_neg pins s σ H _ v Q I rx ⟨_, rfl, k _ F H (Grow.refl sf) (.int _)⟩
  · cases ef
theorem op_eqD' (hu : X.A.units + 64 < cLine) : OpR X (compareOp .Eq) (rP2 X.K eqD) := by
  intro pins s σ H x y v u Q I rx ry h
  obtain ⟨F, d, e, r, sf, hd, he, ef, k⟩ := h
  obtain ⟨b, e1, e2⟩ := bind_some ef
  cases e2
  have q := k (.bl b) F H (Grow.refl sf) (.bl _)
  unfold eqT at e1
  split at e1
  · cases e1
    cases hd
    cases he
    refine op_eq pins s σ H _ _ v u Q I rx ry ⟨rfl, ?_⟩
    rw [dec_int, Bool.beq_eq_decide_eq]
    exact q
  · cases e1
    cases hd
    cases he
    refine op_eq pins s σ H _ _ v u Q I rx ry ⟨rfl, ?_⟩
    rw [dec_str, Bool.beq_eq_decide_eq]
    exact q
  · cases e1
    cases hd
    cases he
    refine op_eq pins s σ H _ _ v u Q I rx ry ⟨rfl, ?_⟩
    rw [dec_bl, Bool.beq_eq_decide_eq]
    exact q
  · cases e1
    cases hd
    cases he
    exact op_eq pins s σ H _ _ v u Q I rx ry ⟨rfl, q⟩
  · split at e1
    · rename_i hs
      cases e1
      exact op_eqD hu pins s σ H _ _ v u Q I rx ry ⟨d, e, rp_dp (dp_mono sf _ _ hd) (SeqAt.canLay_of_shaped hs.1), rp_dp (dp_mono sf _ _ he) (SeqAt.canLay_of_shaped hs.2), hs.1, hs.2, q⟩
    · cases e1
theorem op_neD' (hu : X.A.units + 64 < cLine) : OpR X (compareOp .NotEq) (rP2 X.K neD) := by
  intro pins s σ H x y v u Q I rx ry h
  obtain ⟨F, d, e, r, sf, hd, he, ef, k⟩ := h
  obtain ⟨b, e1, e2⟩ := bind_some ef
  cases e2
  have q := k (.bl (!b)) F H (Grow.refl sf) (.bl _)
  unfold eqT at e1
  split at e1
  · cases e1
    cases hd
    cases he
    refine op_ne pins s σ H _ _ v u Q I rx ry ⟨rfl, ?_⟩
    rw [dec_int, Bool.beq_eq_decide_eq]
    exact q
  · cases e1
    cases hd
    cases he
    refine op_ne pins s σ H _ _ v u Q I rx ry ⟨rfl, ?_⟩
    rw [dec_str, Bool.beq_eq_decide_eq]
    exact q
  · cases e1
    cases hd
    cases he
    refine op_ne pins s σ H _ _ v u Q I rx ry ⟨rfl, ?_⟩
    rw [dec_bl, Bool.beq_eq_decide_eq]
    exact q
  · cases e1
    cases hd
    cases he
    exact op_ne pins s σ H _ _ v u Q I rx ry ⟨rfl, q⟩
  · split at e1
    · rename_i hs
      cases e1
      exact op_neD hu pins s σ H _ _ v u Q I rx ry ⟨d, e, rp_dp (dp_mono sf _ _ hd) (SeqAt.canLay_of_shaped hs.1), rp_dp (dp_mono sf _ _ he) (SeqAt.canLay_of_shaped hs.2), hs.1, hs.2, q⟩
    · cases e1
theorem op_ltD (hu : X.A.units + 64 < cLine) : OpR X (compareOp .Lt) (rP2 X.K ltD) := by
  intro pins s σ H x y v u Q I rx ry h
  obtain ⟨F, d, e, r, sf, hd, he, ef, k⟩ := h
  obtain ⟨b, e1, e2⟩ := bind_some ef
  cases e2
  have q := k (.bl b) F H (Grow.refl sf) (.bl _)
  unfold ltT at e1
  split at e1
  · cases e1
    cases hd
    cases he
    exact op_lt pins s σ H _ _ v u Q I rx ry ⟨_, _, rfl, rfl, q⟩
  · cases e1
    cases hd
    cases he
    exact op_lt_str pins s σ H _ _ v u Q I rx ry ⟨_, _, rfl, rfl, q⟩
  · split at e1
    · rename_i hs
      obtain ⟨as, r1⟩ := Dp.reads I d x v (rp_dp (dp_mono sf _ _ hd) (SeqAt.canLay_of_shaped hs.1)) rx
      obtain ⟨bs, r2⟩ := Dp.reads I e y u (rp_dp (dp_mono sf _ _ he) (SeqAt.canLay_of_shaped hs.2)) ry
      have hdp := SeqAt.depth_of_shaped hs.1
      exact DnLt.rc_lt d e X.A s v u as bs b r1 r2 e1 (SeqAt.canLay_of_shaped hs.1) (SeqAt.canLay_of_shaped hs.2) (by omega) X.prog X.w _ _ ⟨.bl b, H, I, rfl, q⟩
    · cases e1
theorem op_leD : OpR X (compareOp .LtE) (rP2 X.K leD) := by
  intro pins s σ H x y v u Q I rx ry h
  obtain ⟨F, d, e, r, sf, hd, he, ef, k⟩ := h
  unfold leD at ef
  split at ef
  · cases ef
    cases hd
    cases he
    exact op_le pins s σ H _ _ v u Q I rx ry ⟨_, _, rfl, rfl, k _ F H (Grow.refl sf) (.bl _)⟩
  · cases ef
theorem op_gtD : OpR X (compareOp .Gt) (rP2 X.K gtD) := by
  intro pins s σ H x y v u Q I rx ry h
  obtain ⟨F, d, e, r, sf, hd, he, ef, k⟩ := h
  unfold gtD at ef
  split at ef
  · cases ef
    cases hd
    cases he
    exact op_gt pins s σ H _ _ v u Q I rx ry ⟨_, _, rfl, rfl, k _ F H (Grow.refl sf) (.bl _)⟩
  · cases ef
theorem op_geD : OpR X (compareOp .GtE) (rP2 X.K geD) := by
  intro pins s σ H x y v u Q I rx ry h
  obtain ⟨F, d, e, r, sf, hd, he, ef, k⟩ := h
  unfold geD at ef
  split at ef
  · cases ef
    cases hd
    cases he
    exact op_ge pins s σ H _ _ v u Q I rx ry ⟨_, _, rfl, rfl, k _ F H (Grow.refl sf) (.bl _)⟩
  · cases ef
theorem isN_dp {K : PySem.W.Frag} {F : Hp} {x : V} {d : D} (h : Rp K F x d) : decide (x = .non) = isN d := by
  cases h <;> rfl
theorem op_isD : OpR X (compareOp .Is) (rP2 X.K isD) := by
  intro pins s σ H x y v u Q I rx ry h
  obtain ⟨F, d, e, r, sf, hd, he, ef, k⟩ := h
  unfold isD at ef
  split at ef
  · cases ef
    cases he
    refine op_isN pins s σ H _ _ v u Q I rx ry ⟨rfl, ?_⟩
    rw [isN_dp hd]
    exact k _ F H (Grow.refl sf) (.bl _)
  · cases ef
    cases hd
    cases he
    exact op_is_bl pins s σ H _ _ v u Q I rx ry ⟨_, _, rfl, rfl, k _ F H (Grow.refl sf) (.bl _)⟩
  · cases ef
theorem op_isntD : OpR X (compareOp .IsNot) (rP2 X.K isntD) := by
  intro pins s σ H x y v u Q I rx ry h
  obtain ⟨F, d, e, r, sf, hd, he, ef, k⟩ := h
  unfold isntD at ef
  split at ef
  · cases ef
    cases he
    refine op_notN pins s σ H _ _ v u Q I rx ry ⟨rfl, ?_⟩
    rw [isN_dp hd]
    exact k _ F H (Grow.refl sf) (.bl _)
  · cases ef
    cases hd
    cases he
    exact op_isnot_bl pins s σ H _ _ v u Q I rx ry ⟨_, _, rfl, rfl, k _ F H (Grow.refl sf) (.bl _)⟩
  · cases ef
end

/-! ### items, slices -/
def ixA {α : Type} (xs : List α) (i : Int) : Option α := if 0 ≤ i then xs[i.toNat]? else if -(xs.length : Int) ≤ i then xs[(i + xs.length).toNat]? else none
def ixD : D → D → Option D
  | .list xs, .int i => ixA xs i
  | .tuple xs, .int i => ixA xs i
  | _, _ => none
theorem ixA_at {α : Type} {xs : List α} {i : Int} {x : α} (h : ixA xs i = some x) : atI xs i = some x := by
  unfold ixA at h
  unfold atI ixN
  split at h
  · rename_i h0
    have hl : i.toNat < xs.length := (List.getElem?_eq_some_iff.mp h).1
    rw [if_pos h0, if_pos (by omega)]
    exact h
  · rename_i h0
    split at h
    · rename_i h1
      rw [if_neg h0, if_pos h1]
      exact h
    · cases h
theorem da_ix {K : PySem.W.Frag} {F : Hp} {vs : List V} {ds : List D} {i : Int} {d : D} (r : RpAll K F vs ds) (h : ixA ds i = some d) : ∃ v, ixA vs i = some v ∧ Rp K F v d := by
  have hl := da_len r
  unfold ixA at h ⊢
  split at h
  · rename_i h0
    rw [if_pos h0]
    exact da_at r h
  · rename_i h0
    rw [if_neg h0]
    split at h
    · rename_i h1
      rw [if_pos (by rw [hl]; exact h1), hl]
      exact da_at r h
    · cases h
section
variable {X : Cx}
theorem ix_D : IxR X (rP2 X.K ixD) := by
  intro value slice pins s σ H x y v u Q I rx ry h hs
  obtain ⟨F, d, e, r, sf, hd, he, ef, k⟩ := h
  unfold ixD at ef
  split at ef
  · cases he
    cases hd with
    | lst h1 d1 =>
      obtain ⟨z, e1, rz⟩ := da_ix d1 ef
      exact ix_list value slice pins s σ H _ _ v u Q I rx ry ⟨_, _, _, z, rfl, rfl, sf.seq h1, ixA_at e1, k z F H (Grow.refl sf) rz⟩ hs
  · cases he
    cases hd with
    | tup h1 d1 =>
      obtain ⟨z, e1, rz⟩ := da_ix d1 ef
      exact ix_tup value slice pins s σ H _ _ v u Q I rx ry ⟨_, _, _, z, rfl, rfl, seqT_same sf h1, ixA_at e1, k z F H (Grow.refl sf) rz⟩ hs
  · cases ef
end
def gNoP : Md (Option Int) := fun ρ => some (none, ρ)
def iOf : D → Option Int
  | .int i => some i
  | _ => none
def gPart (g : Md D) : Md (Option Int) := fun ρ => (g ρ).bind fun p => (iOf p.1).bind fun i => some (some i, p.2)
def tDO (K : PySem.W.Frag) (g : Md (Option Int)) : TO := fun σ H Q => ∃ (F : Hp) (ρ : Env) (d : Option Int) (ρ' : Env), St K F H σ ρ ∧ g ρ = some (d, ρ') ∧
  ∀ F' H', Stp F σ ρ H F' σ ρ' H' → St K F' H' σ ρ' → Q d H'
abbrev DO (X : Cx) (e : Option Expr) (g : Md (Option Int)) : Prop := PO X e (tDO X.K g)
theorem po_imp {X : Cx} {e : Option Expr} {t t' : TO} (h : PO X e t) (i : ∀ σ H Q, t' σ H Q → t σ H Q) : PO X e t' := ⟨fun pins s σ H Q I q => h.run pins s σ H Q I (i σ H Q q)⟩
theorem iOf_some {d : D} {i : Int} (h : iOf d = some i) : d = .int i := by
  cases d <;> simp [iOf] at h
  subst h
  rfl
theorem do_none {X : Cx} : DO X none gNoP := po_imp po_none fun σ H Q q => by
  obtain ⟨F, ρ, d, ρ', s, eg, k⟩ := q
  cases eg
  exact k F H Stp.refl s
theorem do_some {X : Cx} {e : Expr} {g : Md D} (h : DE X e g) : DO X (some e) (gPart g) := po_imp (po_some h) fun σ H Q q => by
  obtain ⟨F, ρ, d, ρ', s, eg, k⟩ := q
  obtain ⟨⟨x, ρ1⟩, e1, eg1⟩ := bind_some eg
  obtain ⟨z, e3, eg2⟩ := bind_some eg1
  cases eg2
  have e5 := iOf_some e3
  subst e5
  exact ⟨F, ρ, _, _, s, e1, fun v F1 H1 p1 s1 r1 => ⟨z, by cases r1; rfl, k F1 H1 p1 s1⟩⟩
def cutA {α : Type} (xs : List α) (lo hi : Option Int) : List α := (xs.drop (HT.sIx xs.length 0 lo)).take (HT.sIx xs.length xs.length hi - HT.sIx xs.length 0 lo)
def cutD (d : D) (lo hi : Option Int) : Option D := match d with
  | .list xs => some (.list (cutA xs lo hi))
  | .tuple xs => some (.tuple (cutA xs lo hi))
  | _ => none
def gSl (ga : Md D) (gl gh : Md (Option Int)) : Md D := fun ρ => (ga ρ).bind fun p => (gl p.2).bind fun q => (gh q.2).bind fun r => (cutD p.1 q.1 r.1).bind fun d => some (d, r.2)
theorem da_cut {K : PySem.W.Frag} {F : Hp} {vs : List V} {ds : List D} (r : RpAll K F vs ds) (lo hi : Option Int) : RpAll K F (cutV vs lo hi) (cutA ds lo hi) := by
  have hl := da_len r
  unfold cutV cutA
  rw [hl]
  exact da_take _ (da_drop _ r)
section
variable {X : Cx} {e : Expr} {lo hi : Option Expr} {pos p2 : Pos}
theorem de_slice {ga : Md D} {gl gh : Md (Option Int)} (he : DE X e ga) (hl : DO X lo gl) (hh : DO X hi gh) : DE X (.Subscript e (.Slice lo hi none p2) pos) (gSl ga gl gh) :=
  pe_imp (pe_slice (sl_list.or sl_tupA) he hl hh) fun σ H Q q => by
    obtain ⟨F, ρ, d, ρ', s, eg, k⟩ := q
    obtain ⟨⟨x, ρ1⟩, e1, eg1⟩ := bind_some eg
    obtain ⟨⟨l, ρ2⟩, e2, eg2⟩ := bind_some eg1
    obtain ⟨⟨h, ρ3⟩, e3, eg3⟩ := bind_some eg2
    obtain ⟨z, e4, eg4⟩ := bind_some eg3
    cases eg4
    refine ⟨F, ρ, x, ρ1, s, e1, fun v F1 H1 p1 s1 r1 => ⟨F1, ρ1, l, ρ2, s1, e2, fun F2 H2 p2 s2 => ⟨F2, ρ2, h, _, s2, e3, fun F3 H3 p3 s3 => ?_⟩⟩⟩
    have pp := p1.trans (p2.trans p3)
    have r3 : Rp X.K F3 v x := dp_mono (p2.ff.trans p3.ff) _ _ r1
    have e5 : cutD x l h = some _ := e4
    clear e4 eg3 eg2 eg1 eg
    cases x with
    | list xs =>
      cases e5
      cases r3 with
      | @lst a vs _ h1 d1 =>
        refine .inl ⟨a, vs, rfl, s3.sub.seq h1, fun p hp => ?_⟩
        have gr : Grow F3 H3 (upd F3 p (.lst (cutV vs l h))) (upd H3 p (.lst (cutV vs l h))) := Grow.val s3.sub hp
        exact k _ _ _ (pp.trans (gr.stp σ _)) (s3.grow gr) (.lst (.inl (.inl upd_same)) (dpAll_mono gr.ff _ _ (da_cut d1 l h)))
    | tuple xs =>
      cases e5
      cases r3 with
      | @tup a vs _ h1 d1 =>
        refine .inr ⟨a, vs, rfl, seqT_same s3.sub h1, fun hw => ?_, fun _ p hp => ?_⟩
        · have hl := da_len d1
          have ec : ∀ (xs : List D), HT.sIx xs.length 0 l = 0 ∧ HT.sIx xs.length xs.length h = xs.length → cutA xs l h = xs := fun xs w => by
            unfold cutA
            rw [w.1, w.2]
            simp
          rw [ec _ (by rw [← hl]; exact hw)] at k
          exact k _ _ _ pp s3 (.tup h1 d1)
        · have gr : Grow F3 H3 (upd F3 p (.tup (cutV vs l h))) (upd H3 p (.tup (cutV vs l h))) := Grow.val s3.sub hp
          exact k _ _ _ (pp.trans (gr.stp σ _)) (s3.grow gr) (.tup (.inl (.inl upd_same)) (dpAll_mono gr.ff _ _ (da_cut d1 l h)))
    | none => cases e5
    | bool _ => cases e5
    | int _ => cases e5
    | str _ => cases e5
    | dict _ => cases e5
end

/-! ### built-ins -/
def lenF : List D → Option D
  | [.list xs] => some (.int xs.length)
  | [.tuple xs] => some (.int xs.length)
  | [.str x] => if x.length ≤ 16777216 then some (.int x.length) else none
  | _ => none
def intF : List D → Option D
  | [.int i] => some (.int i)
  | [.bool b] => some (.int (if b then 1 else 0))
  | _ => none
def absF : List D → Option D
  | [.int i] => some (.int (if i < 0 then -i else i))
  | _ => none
def maxF : List D → Option D
  | [.int i, .int j] => some (.int (if j > i then j else i))
  | _ => none
def minF : List D → Option D
  | [.int i, .int j] => some (.int (if j < i then j else i))
  | _ => none
def tupF : List D → Option D
  | [.list xs] => some (.tuple xs)
  | [.tuple xs] => some (.tuple xs)
  | _ => none
def lstF : List D → Option D
  | [.list xs] => some (.list xs)
  | [.tuple xs] => some (.list xs)
  | _ => none
def strF : List D → Option D
  | [.int i] => if i.natAbs.log2 < 1920 then some (.str (toString i)) else none
  | _ => none
def ordF : List D → Option D
  | [.str x] => if x.length = 1 then some (.int (x.cps.getD 0 0 : Nat)) else none
  | _ => none
section
variable {X : Cx}
theorem da1 {K : PySem.W.Frag} {F : Hp} {vs : List V} {d : D} (h : RpAll K F vs [d]) : ∃ v, vs = [v] ∧ Rp K F v d := by
  cases h with
  | cons h t =>
    cases t
    exact ⟨_, rfl, h⟩
theorem da2 {K : PySem.W.Frag} {F : Hp} {vs : List V} {d e : D} (h : RpAll K F vs [d, e]) : ∃ v w, vs = [v, w] ∧ Rp K F v d ∧ Rp K F w e := by
  cases h with
  | cons h t =>
    obtain ⟨w, rfl, r⟩ := da1 t
    exact ⟨_, w, rfl, h, r⟩
theorem call_lenD : CallR X (.builtin "len") (rPn X.K lenF) := by
  intro pins s σ H xs us Q I rx h
  obtain ⟨F, ds, r, sf, hd, ef, k⟩ := h
  unfold lenF at ef
  split at ef
  · cases ef
    obtain ⟨v, rfl, hv⟩ := da1 hd
    cases hv with
    | lst h1 d1 => exact call_len_seq pins s σ H _ us Q I rx ⟨_, _, rfl, .inl (sf.seq h1), by rw [da_len d1]; exact k _ F H (Grow.refl sf) (.int _)⟩
  · cases ef
    obtain ⟨v, rfl, hv⟩ := da1 hd
    cases hv with
    | tup h1 d1 => exact call_len_seq pins s σ H _ us Q I rx ⟨_, _, rfl, .inr (seqT_same sf h1), by rw [da_len d1]; exact k _ F H (Grow.refl sf) (.int _)⟩
  · split at ef
    · rename_i hl
      cases ef
      obtain ⟨v, rfl, hv⟩ := da1 hd
      cases hv
      exact call_len_str pins s σ H _ us Q I rx ⟨_, rfl, by rw [line_eq]; exact hl, k _ F H (Grow.refl sf) (.int _)⟩
    · cases ef
  · cases ef
theorem call_intD : CallR X (.type "int") (rPn X.K intF) := by
  intro pins s σ H xs us Q I rx h
  obtain ⟨F, ds, r, sf, hd, ef, k⟩ := h
  unfold intF at ef
  split at ef
  · cases ef
    obtain ⟨v, rfl, hv⟩ := da1 hd
    cases hv
    exact call_int1 pins s σ H _ us Q I rx (.inl ⟨_, rfl, k _ F H (Grow.refl sf) (.int _)⟩)
  · cases ef
    obtain ⟨v, rfl, hv⟩ := da1 hd
    cases hv
    exact call_int1 pins s σ H _ us Q I rx (.inr ⟨_, rfl, k _ F H (Grow.refl sf) (.int _)⟩)
  · cases ef
theorem call_absD : CallR X (.builtin "abs") (rPn X.K absF) := by
  intro pins s σ H xs us Q I rx h
  obtain ⟨F, ds, r, sf, hd, ef, k⟩ := h
  unfold absF at ef
  split at ef
  · cases ef
    obtain ⟨v, rfl, hv⟩ := da1 hd
    cases hv
    exact call_abs pins s σ H _ us Q I rx ⟨_, rfl, k _ F H (Grow.refl sf) (.int _)⟩
  · cases ef
theorem call_maxD (hc : X.calm = true) : CallR X (.builtin "max") (rPn X.K maxF) := by
  intro pins s σ H xs us Q I rx h
  obtain ⟨F, ds, r, sf, hd, ef, k⟩ := h
  unfold maxF at ef
  split at ef
  · cases ef
    obtain ⟨v, w, rfl, hv, hw⟩ := da2 hd
    cases hv
    cases hw
    exact call_max2 hc pins s σ H _ us Q I rx ⟨_, _, rfl, k _ F H (Grow.refl sf) (.int _)⟩
  · cases ef
theorem call_minD (hc : X.calm = true) : CallR X (.builtin "min") (rPn X.K minF) := by
  intro pins s σ H xs us Q I rx h
  obtain ⟨F, ds, r, sf, hd, ef, k⟩ := h
  unfold minF at ef
  split at ef
  · cases ef
    obtain ⟨v, w, rfl, hv, hw⟩ := da2 hd
    cases hv
    cases hw
    exact call_min2 hc pins s σ H _ us Q I rx ⟨_, _, rfl, k _ F H (Grow.refl sf) (.int _)⟩
  · cases ef
theorem call_tupD : CallR X (.type "tuple") (rPn X.K tupF) := by
  intro pins s σ H xs us Q I rx h
  obtain ⟨F, ds, r, sf, hd, ef, k⟩ := h
  unfold tupF at ef
  split at ef
  · cases ef
    obtain ⟨v, rfl, hv⟩ := da1 hd
    cases hv with
    | @lst a vs _ h1 d1 =>
      refine call_tuple_of pins s σ H _ us Q I rx ⟨a, vs, rfl, .inl ⟨sf.seq h1, fun p hp => ?_⟩⟩
      have gr : Grow F H (upd F p (.tup vs)) (upd H p (.tup vs)) := Grow.val sf hp
      exact k _ _ _ gr (.tup (.inl (.inl upd_same)) (dpAll_mono gr.ff _ _ d1))
  · cases ef
    obtain ⟨v, rfl, hv⟩ := da1 hd
    cases hv with
    | tup h1 d1 => exact call_tuple_of pins s σ H _ us Q I rx ⟨_, _, rfl, .inr ⟨seqT_same sf h1, k _ F H (Grow.refl sf) (.tup h1 d1)⟩⟩
  · cases ef
theorem call_lstD : CallR X (.type "list") (rFn X.K lstF) := by
  intro pins s σ H xs us Q I rx h
  obtain ⟨F, ds, r, sf, hd, ef, k⟩ := h
  unfold lstF at ef
  split at ef
  · cases ef
    obtain ⟨v, rfl, hv⟩ := da1 hd
    cases hv with
    | lst h1 d1 => exact call_list_of pins s σ H _ us Q I rx ⟨_, _, rfl, .inl (sf.seq h1), fun p hp => k p _ _ (Grow.own sf hp) (own_new sf hp d1) hp⟩
  · cases ef
    obtain ⟨v, rfl, hv⟩ := da1 hd
    cases hv with
    | tup h1 d1 => exact call_list_of pins s σ H _ us Q I rx ⟨_, _, rfl, .inr (seqT_same sf h1), fun p hp => k p _ _ (Grow.own sf hp) (own_new sf hp d1) hp⟩
  · cases ef
theorem call_strD : CallR X (.type "str") (rPn X.K strF) := by
  intro pins s σ H xs us Q I rx h
  obtain ⟨F, ds, r, sf, hd, ef, k⟩ := h
  unfold strF at ef
  split at ef
  · split at ef
    · rename_i hl
      cases ef
      obtain ⟨v, rfl, hv⟩ := da1 hd
      cases hv
      exact call_str_int pins s σ H _ us Q I rx ⟨_, rfl, hl, k _ F H (Grow.refl sf) (.str _)⟩
    · cases ef
  · cases ef
theorem call_ordD : CallR X (.builtin "ord") (rPn X.K ordF) := by
  intro pins s σ H xs us Q I rx h
  obtain ⟨F, ds, r, sf, hd, ef, k⟩ := h
  unfold ordF at ef
  split at ef
  · split at ef
    · rename_i hl
      cases ef
      obtain ⟨v, rfl, hv⟩ := da1 hd
      cases hv
      exact call_ord pins s σ H _ us Q I rx ⟨_, rfl, hl, k _ F H (Grow.refl sf) (.int _)⟩
    · cases ef
  · cases ef
end
/-- the built-in class of a datum -/
def tyD : D → String
  | .none => "NoneType"
  | .bool _ => "bool"
  | .int _ => "int"
  | .str _ => "str"
  | .list _ => "list"
  | .tuple _ => "tuple"
  | .dict _ => "dict"
def isiF (T : String) : List D → Option D
  | [d] => (kitB (tyD d) T).bind fun b => some (.bool b)
  | _ => none
section
variable {X : Cx}
theorem dp_ty {K : PySem.W.Frag} {F H : Hp} {v : V} {d : D} (s : Same F H) (h : Rp K F v d) : TyX K H v (.type (tyD d)) := by
  cases h with
  | non => exact .base .non
  | bl b => exact .base (.bl b)
  | int i => exact .base (.int i)
  | str x => exact .base (.str x)
  | lst h1 _ =>
    rcases h1 with (h1 | ⟨o, h1⟩) | ⟨o, its, n, h1, h2, _⟩
    · exact .base (.lst (s _ _ h1))
    · exact .base (.frz (s _ _ h1))
    · exact .kList h1 h2
  | dic h1 _ => exact .base (.dK (s _ _ h1))
  | tup h1 _ =>
    rcases h1 with (h1 | ⟨o, h1⟩) | ⟨o, its, n, h1, h2, _⟩
    · exact .base (.tup (s _ _ h1))
    · exact .fTuple (s _ _ h1)
    · exact .kTuple h1 h2
theorem isi_cut {T : String} {vs : List V} {H : Hp} {Q : VK} (h : rPn X.K (isiF T) vs H Q) : rIsi X.K (vs ++ [.ty T]) H Q := by
  obtain ⟨F, ds, r, sf, hd, ef, k⟩ := h
  unfold isiF at ef
  split at ef
  · obtain ⟨v, rfl, hv⟩ := da1 hd
    obtain ⟨b, e1, e2⟩ := bind_some ef
    cases e2
    exact ⟨v, .ty T, _, _, b, rfl, .ty T, dp_ty sf hv, kit_ty e1, k _ F H (Grow.refl sf) (.bl _)⟩
  · cases ef
end
end Dn
set_option maxHeartbeats 2000000
/-! calls, statements, loops, comprehensions, defs -/
namespace Dn
open PySem PySem.Spec PyProof.Rows L2

section
variable {X : Cx} {e a b c : Expr} {es : List Expr} {pos p cpos apos : Pos} {x : Str}

/-! ### calls of built-ins -/
theorem app_q {r : List V → Hp → VK → Prop} {f : List D → Option D} {gs : Md (List D)} (hr : r = rPn X.K f) {σ : L2.St} {H : Hp} {Q : VK} (q : tD X.K (gApp f gs) σ H Q) : tDA X.K gs σ H fun vs H1 => r vs H1 Q := by
  subst hr
  obtain ⟨F, ρ, d, ρ', s, eg, k⟩ := q
  obtain ⟨⟨ds, ρ1⟩, e1, eg1⟩ := bind_some eg
  obtain ⟨z, e3, eg2⟩ := bind_some eg1
  cases eg2
  exact ⟨F, ρ, ds, _, s, e1, fun vs F1 H1 p1 s1 r1 => ⟨F1, ds, _, s1.sub, r1, e3, fun w F3 H3 gr rw' => k w F3 H3 (p1.trans (gr.stp σ _)) (s1.grow gr) rw'⟩⟩
theorem appF_q {r : List V → Hp → VK → Prop} {f : List D → Option D} {gs : Md (List D)} (hr : r = rFn X.K f) {σ : L2.St} {H : Hp} {Q : VK} (q : tF X.K (gApp f gs) σ H Q) : tDA X.K gs σ H fun vs H1 => r vs H1 Q := by
  subst hr
  obtain ⟨F, ρ, d, ρ', s, eg, k⟩ := q
  obtain ⟨⟨ds, ρ1⟩, e1, eg1⟩ := bind_some eg
  obtain ⟨z, e3, eg2⟩ := bind_some eg1
  cases eg2
  exact ⟨F, ρ, ds, _, s, e1, fun vs F1 H1 p1 s1 r1 => ⟨F1, ds, _, s1.sub, r1, e3, fun a F3 H3 gr o hn => k a F3 H3 (p1.trans (gr.stp σ _)) (s1.grow gr) o (not_owns s1 hn) (p1.none hn)⟩⟩
theorem de_callB {id : String} {f : List D → Option D} {gs : Md (List D)} (hc : CallR X (.builtin id) (rPn X.K f)) (hg : Gl X x) (hm : X.mg x = none) (hv : bootBuiltins x = some (.builtin id)) (ha : DA X (e :: es) gs) (hn : x ≠ "__name__" := by decide) (hdb : (x == ("__debug__" : Str)) = false := by decide)
    (he : starEach (e :: es) X.env = (false, eval e X.env) :: starEach es X.env := by rfl) (hpl : (backTo pos (starEach es X.env)).any (·.1) = false := by rfl) : DE X (.Call (.Name x p) (e :: es) [] pos) (gApp f gs) :=
  pe_imp (pe_callB hc hg hm hv ha hn hdb he hpl) fun _ _ _ q => app_q rfl q
theorem de_callTy {T : String} {f : List D → Option D} {gs : Md (List D)} (hc : CallR X (.type T) (rPn X.K f)) (hg : Gl X x) (hm : X.mg x = none) (hv : bootBuiltins x = some (.type T)) (ha : DA X (e :: es) gs) (hn : x ≠ "__name__" := by decide) (hdb : (x == ("__debug__" : Str)) = false := by decide)
    (he : starEach (e :: es) X.env = (false, eval e X.env) :: starEach es X.env := by rfl) (hpl : (backTo pos (starEach es X.env)).any (·.1) = false := by rfl) : DE X (.Call (.Name x p) (e :: es) [] pos) (gApp f gs) :=
  pe_imp (pe_callTy hc hg hm hv ha hn hdb he hpl) fun _ _ _ q => app_q rfl q
theorem df_callTy {T : String} {f : List D → Option D} {gs : Md (List D)} (hc : CallR X (.type T) (rFn X.K f)) (hg : Gl X x) (hm : X.mg x = none) (hv : bootBuiltins x = some (.type T)) (ha : DA X (e :: es) gs) (hn : x ≠ "__name__" := by decide) (hdb : (x == ("__debug__" : Str)) = false := by decide)
    (he : starEach (e :: es) X.env = (false, eval e X.env) :: starEach es X.env := by rfl) (hpl : (backTo pos (starEach es X.env)).any (·.1) = false := by rfl) : DF X (.Call (.Name x p) (e :: es) [] pos) (gApp f gs) :=
  pe_imp (pe_callTy hc hg hm hv ha hn hdb he hpl) fun _ _ _ q => appF_q rfl q
theorem df_callB {id : String} {f : List D → Option D} {gs : Md (List D)} (hc : CallR X (.builtin id) (rFn X.K f)) (hg : Gl X x) (hm : X.mg x = none) (hv : bootBuiltins x = some (.builtin id)) (ha : DA X (e :: es) gs) (hn : x ≠ "__name__" := by decide) (hdb : (x == ("__debug__" : Str)) = false := by decide)
    (he : starEach (e :: es) X.env = (false, eval e X.env) :: starEach es X.env := by rfl) (hpl : (backTo pos (starEach es X.env)).any (·.1) = false := by rfl) : DF X (.Call (.Name x p) (e :: es) [] pos) (gApp f gs) :=
  pe_imp (pe_callB hc hg hm hv ha hn hdb he hpl) fun _ _ _ q => appF_q rfl q
/-- isinstance(e, T) -/
theorem de_isi {T : String} {y : Str} {p2 : Pos} {g : Md D} (hm : X.mg "isinstance" = none) (hgl : Gl X "isinstance") (hgy : Gl X y) (hmy : X.mg y = none) (hv : bootBuiltins y = some (.type T)) (ha : DE X e g) (hny : y ≠ "__name__" := by decide) (hdy : (y == ("__debug__" : Str)) = false := by decide)
    (he : starEach (e :: [.Name y p2]) X.env = (false, eval e X.env) :: starEach [.Name y p2] X.env := by rfl) (he2 : starEach ([.Name y p2]) X.env = (false, eval (.Name y p2) X.env) :: starEach [] X.env := by rfl) (hpl : (backTo pos (starEach [.Name y p2] X.env)).any (·.1) = false := by rfl) : DE X (.Call (.Name "isinstance" p) [e, .Name y p2] [] pos) (gApp (isiF T) (gCons g gNil)) :=
  pe_imp (pe_callB call_isi hgl hm (by decide +kernel) (pa_cons ha (pa_cons (pe_bltn (v := .ty T) hgy hmy hv rfl hny hdy) pa_nil he2) he) (by decide) (by decide) he hpl) fun σ H Q q => by
    obtain ⟨F, ρ, d, ρ', s, eg, k⟩ := q
    obtain ⟨⟨ds, ρ1⟩, e1, eg1⟩ := bind_some eg
    obtain ⟨z, e3, eg2⟩ := bind_some eg1
    cases eg2
    obtain ⟨⟨d1, ρ2⟩, e4, eg4⟩ := bind_some e1
    cases eg4
    exact ⟨F, ρ, d1, ρ2, s, e4, fun v F1 H1 p1 s1 r1 => isi_cut (vs := [v]) ⟨F1, [d1], _, s1.sub, .cons r1 .nil, e3, fun w F3 H3 gr rw' => k w F3 H3 (p1.trans (gr.stp σ ρ2)) (s1.grow gr) rw'⟩⟩

/-! ### defs: their promises -/
def spV (K : PySem.W.Frag) (n : Nat) (f : List D → Option D) : Sp := fun vs H Q _ => vs.length = n ∧ rPn K f vs H Q
/-- .. whose first argument is a list that is changed -/
def spIO (K : PySem.W.Frag) (n : Nat) (f : D → List D → Option (D × D)) : Sp := fun vs H Q _ => vs.length = n ∧ ∃ (F : Hp) (a : Addr) (ws : List V) (d : D) (ds : List D) (r d' : D), vs = .ref a :: ws ∧ Same F H ∧ OwnAt K F H a d ∧ RpAll K F ws ds ∧ f d ds = some (r, d') ∧
  ∀ v F' H', Same F F' → Same F' H' → (∀ b o, H b = some o → b ≠ a → H' b = some o ∧ F' b = F b) → OwnAt K F' H' a d' → Rp K F' v r → Q v H'
theorem de_call {k n : Nat} {f : Addr} {fd : FuncData} {ps : List Str} {g : List D → Option D} {gs : Md (List D)} (G : FnOk X.prog X.w X.K X.mg X.base CX0 k f fd ps (spV X.K n g)) (hr : Room k X.A) (hg : Gl X x) (hm : X.mg x = some (.ref f)) (hk : PySem.W.keepIn X.K (.ref f) = true) (hb : Binds X.K fd ps []) (hn : (e :: es).length = n) (ha : DA X (e :: es) gs) (hlen : ∀ ρ ds ρ', gs ρ = some (ds, ρ') → ds.length = n)
    (hdb : (x == ("__debug__" : Str)) = false := by decide) (he : starEach (e :: es) X.env = (false, eval e X.env) :: starEach es X.env := by rfl) (hpl : (backTo pos (starEach es X.env)).any (·.1) = false := by rfl) : DE X (.Call (.Name x p) (e :: es) [] pos) (gApp g gs) :=
  pe_imp (pe_call G hr hg hm hk hb .nil pass0 ha hdb he hpl) fun σ H Q q => by
    obtain ⟨F, ρ, d, ρ', s, eg, k⟩ := q
    obtain ⟨⟨ds, ρ1⟩, e1, eg1⟩ := bind_some eg
    obtain ⟨z, e3, eg2⟩ := bind_some eg1
    cases eg2
    exact ⟨F, ρ, ds, _, s, e1, fun vs F1 H1 p1 s1 r1 => ⟨by rw [List.append_nil, da_len r1]; exact hlen _ _ _ e1, F1, ds, _, s1.sub, by rw [List.append_nil]; exact r1, e3, fun w F3 H3 gr rw' => k w F3 H3 (p1.trans (gr.stp σ _)) (s1.grow gr) rw'⟩⟩
/-- .. that hands back a new list of the caller's own -/
def spF (K : PySem.W.Frag) (n : Nat) (f : List D → Option D) : Sp := fun vs H Q _ => vs.length = n ∧ rFn K f vs H Q
theorem df_call {k n : Nat} {f : Addr} {fd : FuncData} {ps : List Str} {g : List D → Option D} {gs : Md (List D)} (G : FnOk X.prog X.w X.K X.mg X.base CX0 k f fd ps (spF X.K n g)) (hr : Room k X.A) (hg : Gl X x) (hm : X.mg x = some (.ref f)) (hk : PySem.W.keepIn X.K (.ref f) = true) (hb : Binds X.K fd ps []) (hn : (e :: es).length = n) (ha : DA X (e :: es) gs) (hlen : ∀ ρ ds ρ', gs ρ = some (ds, ρ') → ds.length = n)
    (hdb : (x == ("__debug__" : Str)) = false := by decide) (he : starEach (e :: es) X.env = (false, eval e X.env) :: starEach es X.env := by rfl) (hpl : (backTo pos (starEach es X.env)).any (·.1) = false := by rfl) : DF X (.Call (.Name x p) (e :: es) [] pos) (gApp g gs) :=
  pe_imp (pe_call G hr hg hm hk hb .nil pass0 ha hdb he hpl) fun σ H Q q => by
    obtain ⟨F, ρ, d, ρ', s, eg, k⟩ := q
    obtain ⟨⟨ds, ρ1⟩, e1, eg1⟩ := bind_some eg
    obtain ⟨z, e3, eg2⟩ := bind_some eg1
    cases eg2
    exact ⟨F, ρ, ds, _, s, e1, fun vs F1 H1 p1 s1 r1 => ⟨by rw [List.append_nil, da_len r1]; exact hlen _ _ _ e1, F1, ds, _, s1.sub, by rw [List.append_nil]; exact r1, e3, fun a F3 H3 gr o hn => k a F3 H3 (p1.trans (gr.stp σ _)) (s1.grow gr) o (not_owns s1 hn) (p1.none hn)⟩⟩
theorem len_nil : ∀ ρ ds ρ', gNil ρ = some (ds, ρ') → ds.length = 0 := fun ρ ds ρ' h => by
  cases h
  rfl
theorem len_cons {g : Md D} {gs : Md (List D)} {n : Nat} (h : ∀ ρ ds ρ', gs ρ = some (ds, ρ') → ds.length = n) : ∀ ρ ds ρ', gCons g gs ρ = some (ds, ρ') → ds.length = n + 1 := fun ρ ds ρ' e => by
  obtain ⟨⟨x, ρ1⟩, e1, eg1⟩ := bind_some e
  obtain ⟨⟨y, ρ2⟩, e2, eg2⟩ := bind_some eg1
  cases eg2
  exact congrArg (· + 1) (h _ _ _ e2)
def setC (i : Nat) (c : Cell) (ρ : Env) : Option Env := match ρ[i]? with
  | some (some (.own true _)) => none
  | some _ => some (ρ.set i (some c))
  | none => none
def gCallIO (i : Nat) (f : D → List D → Option (D × D)) (gs : Md (List D)) : Md D := fun ρ => match ρ[i]? with
  | some (some (.own _ _)) => (gs ρ).bind fun p => match p.2[i]? with
    | some (some (.own b d)) => (f d p.1).bind fun r => some (r.1, p.2.set i (some (.own b r.2)))
    | _ => none
  | _ => none
theorem st_own_set {K : PySem.W.Frag} {F H F' H' : Hp} {σ : L2.St} {ρ : Env} {i : Nat} {b : Bool} {d d' : D} {a : Addr} (s : St K F H σ ρ) (e : ρ[i]? = some (some (.own b d))) (ea : σ[i]? = some (some (.ref a))) (sf : Same F F') (sh : Same F' H')
    (kp : ∀ c o, H c = some o → c ≠ a → H' c = some o ∧ F' c = F c) (o : OwnAt K F' H' a d') : St K F' H' σ (ρ.set i (some (.own b d'))) ∧ Stp F σ ρ H F' σ (ρ.set i (some (.own b d'))) H' := by
  have sub : ∀ c, Owns σ (ρ.set i (some (.own b d'))) c → Owns σ ρ c := fun c h => by
    obtain ⟨j, f, dj, h1, h2⟩ := h
    by_cases z : j = i
    · subst z
      exact ⟨j, b, d, e, h2⟩
    · rw [get_set_ne z] at h1
      exact ⟨j, f, dj, h1, h2⟩
  refine ⟨⟨sh, by rw [List.length_set]; exact s.len, fun j c hj => ?_, fun j l f g dj dl x h1 h2 h3 h4 => ?_⟩, ⟨sf, fun c u hc nc => kp c u hc fun z => nc (by subst z; exact ⟨i, b, d, e, ea⟩), fun c h => .inl (sub c h), fun j dj hj => ⟨rfl, ?_⟩, fun c u hc => ?_⟩⟩
  · by_cases z : j = i
    · subst z
      rw [get_set_self e] at hj
      cases hj
      exact ⟨a, ea, o⟩
    · rw [get_set_ne z] at hj
      have q := s.cell j c hj
      cases c with
      | val dj =>
        obtain ⟨v, e2, r2⟩ := q
        exact ⟨v, e2, dp_mono sf _ _ r2⟩
      | own f dj =>
        obtain ⟨c, e2, f0, xs, ds, e3, e4, r2⟩ := q
        have ne : c ≠ a := fun y => z (by subst y; exact s.dist j i f b dj d _ hj e e2 ea)
        obtain ⟨g1, g2⟩ := kp c _ e4 ne
        exact ⟨c, e2, g2.trans f0, xs, ds, e3, g1, dpAll_mono sf _ _ r2⟩
  · have h1' : ∃ f dj, ρ[j]? = some (some (.own f dj)) := by
      by_cases z : j = i
      · subst z; exact ⟨b, d, e⟩
      · rw [get_set_ne z] at h1; exact ⟨f, dj, h1⟩
    have h2' : ∃ f dj, ρ[l]? = some (some (.own f dj)) := by
      by_cases z : l = i
      · subst z; exact ⟨b, d, e⟩
      · rw [get_set_ne z] at h2; exact ⟨g, dl, h2⟩
    obtain ⟨f1, d1, g1⟩ := h1'
    obtain ⟨f2, d2, g2⟩ := h2'
    exact s.dist j l f1 f2 d1 d2 x g1 g2 h3 h4
  · by_cases z : j = i
    · subst z
      rw [e] at hj
      cases hj
      exact ⟨d', get_set_self e⟩
    · rw [get_set_ne z]
      exact ⟨dj, hj⟩
  · by_cases z : c = a
    · subst z
      exact o.there
    · exact ⟨u, (kp c u hc z).1⟩
theorem de_callIO (i : Nat) {k n : Nat} {y : Str} {f : Addr} {fd : FuncData} {ps : List Str} {py : Pos} {g : D → List D → Option (D × D)} {gs : Md (List D)} (G : FnOk X.prog X.w X.K X.mg X.base CX0 k f fd ps (spIO X.K (n + 1) g)) (hr : Room k X.A) (hg : Gl X x) (hm : X.mg x = some (.ref f)) (hk : PySem.W.keepIn X.K (.ref f) = true) (hb : Binds X.K fd ps [])
    (hN : X.N[i]? = some y) (hv : Vis X.env.scope y) (ha : DA X es gs) (hlen : ∀ ρ ds ρ', gs ρ = some (ds, ρ') → ds.length = n)
    (hdb : (x == ("__debug__" : Str)) = false := by decide) (hdy : (y == ("__debug__" : Str)) = false := by decide) (hcd : (y == ("__classdict__" : Str)) = false := by decide) (he : starEach (.Name y py :: es) X.env = (false, eval (.Name y py) X.env) :: starEach es X.env := by rfl) (hpl : (backTo pos (starEach es X.env)).any (·.1) = false := by rfl) : DE X (.Call (.Name x p) (.Name y py :: es) [] pos) (gCallIO i g gs) :=
  pe_imp (pe_call G hr hg hm hk hb .nil pass0 (pa_cons (pe_var hN hv hdy hcd) ha he) hdb he hpl) fun σ H Q q => by
    obtain ⟨F, ρ, d, ρ', s, eg, k⟩ := q
    unfold gCallIO at eg
    split at eg
    · rename_i b0 d0 h0
      obtain ⟨a, ea, _, _⟩ := st_owned s h0
      obtain ⟨⟨ds, ρ1⟩, e1, eg1⟩ := bind_some eg
      simp only at eg1
      split at eg1
      · rename_i b1 d1 h1
        obtain ⟨⟨r, d'⟩, e2, eg2⟩ := bind_some eg1
        cases eg2
        refine ⟨.ref a, ea, F, ρ, ds, ρ1, s, e1, fun vs F1 H1 p1 s1 r1 => ⟨?_, F1, a, vs, d1, ds, r, d', by simp, s1.sub, ?_, r1, e2, fun v F2 H2 sf sh kp o rv => ?_⟩⟩
        · simp [da_len r1, hlen _ _ _ e1]
        · obtain ⟨a1, ea1, o1, _⟩ := st_owned s1 h1
          rw [ea] at ea1
          cases ea1
          exact o1
        · obtain ⟨s2, p2⟩ := st_own_set s1 h1 ea sf sh kp o
          exact k v F2 H2 (p1.trans p2) s2 rv
      · cases eg1
    · cases eg

/-! ### statements -/
theorem fl_base {K : PySem.W.Frag} {E : Ends} {H H1 F' : Hp} {σ' : L2.St} {H' : Hp} {f : Fl} (h : FlOk K E H F' σ' H' f) (p : ∀ a, H1 a = none → H a = none) : FlOk K E H1 F' σ' H' f := by
  cases f with
  | rof d => exact fun a o n => h a o (p a n)
  | nx => exact h
  | ret d => exact h
  | brk => exact h
  | cnt => exact h
def sNext : Sd := fun ρ => some (.nx, ρ)
def sSeq (s t : Sd) : Sd := fun ρ => (s ρ).bind fun p => match p.1 with
  | .nx => t p.2
  | f => some (f, p.2)
def sIf (g : Md Bool) (s t : Sd) : Sd := fun ρ => (g ρ).bind fun p => if p.1 = true then s p.2 else t p.2
def sRet (g : Md D) : Sd := fun ρ => (g ρ).bind fun p => some (.ret p.1, p.2)
def sDrop (g : Md D) : Sd := fun ρ => (g ρ).bind fun p => some (.nx, p.2)
def sSet (i : Nat) (g : Md D) : Sd := fun ρ => (g ρ).bind fun p => (setC i (.val p.1) p.2).bind fun r => some (.nx, r)
def sOwn (i : Nat) (g : Md D) : Sd := fun ρ => (g ρ).bind fun p => (setC i (.own false p.1) p.2).bind fun r => some (.nx, r)
def sBrk : Sd := fun ρ => some (.brk, ρ)
def sCnt : Sd := fun ρ => some (.cnt, ρ)
variable {st : Stmt} {sts : List Stmt}
theorem dss_nil : DSs X [] sNext := pss_imp pss_nil fun E σ H q => by
  obtain ⟨F, ρ, f, ρ', s, eg, k⟩ := q
  cases eg
  exact k σ F H Stp.refl s
theorem dss_cons {g h : Sd} (h1 : DS X st g) (h2 : DSs X sts h) : DSs X (st :: sts) (sSeq g h) := pss_imp (pss_cons h1 h2) fun E σ H q => by
  obtain ⟨F, ρ, f, ρ', s, eg, k⟩ := q
  obtain ⟨⟨f1, ρ1⟩, e1, eg1⟩ := bind_some eg
  refine ⟨F, ρ, f1, ρ1, s, e1, fun σ1 F1 H1 p1 s1 => ?_⟩
  cases f1 with
  | nx => exact ⟨F1, ρ1, f, ρ', s1, eg1, fun σ2 F2 H2 p2 s2 => fl_base (k σ2 F2 H2 (p1.trans p2) s2) fun _ => p1.none⟩
  | ret d =>
    cases eg1
    exact k σ1 F1 H1 p1 s1
  | rof d =>
    cases eg1
    exact k σ1 F1 H1 p1 s1
  | brk =>
    cases eg1
    exact k σ1 F1 H1 p1 s1
  | cnt =>
    cases eg1
    exact k σ1 F1 H1 p1 s1
theorem dss_one {g : Sd} (h1 : DS X st g) : DSs X [st] g := pss_one h1
theorem ds_pass : DS X (.Pass pos) sNext := ps_imp ps_pass fun E σ H q => by
  obtain ⟨F, ρ, f, ρ', s, eg, k⟩ := q
  cases eg
  exact k σ F H Stp.refl s
theorem ds_break : DS X (.Break pos) sBrk := ps_imp ps_break fun E σ H q => by
  obtain ⟨F, ρ, f, ρ', s, eg, k⟩ := q
  cases eg
  exact k σ F H Stp.refl s
theorem ds_cont : DS X (.Continue pos) sCnt := ps_imp ps_continue fun E σ H q => by
  obtain ⟨F, ρ, f, ρ', s, eg, k⟩ := q
  cases eg
  exact k σ F H Stp.refl s
theorem ds_if {g : Md Bool} {s1 s2 : Sd} {as bs : List Stmt} (hc : DT X c g) (ha : DSs X as s1) (hb : DSs X bs s2) : DS X (.If c as bs pos) (sIf g s1 s2) := ps_imp (ps_if hc ha hb) fun E σ H q => by
  obtain ⟨F, ρ, f, ρ', s, eg, k⟩ := q
  obtain ⟨⟨b, ρ1⟩, e1, eg1⟩ := bind_some eg
  refine ⟨F, ρ, b, ρ1, s, e1, fun F1 H1 p1 s1 => ?_⟩
  cases b with
  | true => exact ⟨F1, ρ1, f, ρ', s1, eg1, fun σ2 F2 H2 p2 s2 => fl_base (k σ2 F2 H2 (p1.trans p2) s2) fun _ => p1.none⟩
  | false => exact ⟨F1, ρ1, f, ρ', s1, eg1, fun σ2 F2 H2 p2 s2 => fl_base (k σ2 F2 H2 (p1.trans p2) s2) fun _ => p1.none⟩
theorem ds_ret {g : Md D} (h : DE X e g) : DS X (.Return (some e) pos) (sRet g) := ps_imp (ps_ret h) fun E σ H q => by
  obtain ⟨F, ρ, f, ρ', s, eg, k⟩ := q
  obtain ⟨⟨d, ρ1⟩, e1, eg1⟩ := bind_some eg
  cases eg1
  exact ⟨F, ρ, d, _, s, e1, fun v F1 H1 p1 s1 r1 => k σ F1 H1 p1 s1 v r1⟩
def sRof (g : Md D) : Sd := fun ρ => (g ρ).bind fun p => some (.rof p.1, p.2)
theorem ds_rof {g : Md D} (h : DF X e g) : DS X (.Return (some e) pos) (sRof g) := ps_imp (ps_ret h) fun E σ H q => by
  obtain ⟨F, ρ, f, ρ', s, eg, k⟩ := q
  obtain ⟨⟨d, ρ1⟩, e1, eg1⟩ := bind_some eg
  cases eg1
  exact ⟨F, ρ, d, _, s, e1, fun a F1 H1 p1 s1 o no hn => k σ F1 H1 p1 s1 a o hn⟩
theorem ds_expr {g : Md D} (h : DE X e g) (hs : swapsWith e none pos.line X.env = pure false := by rfl) : DS X (.Expr e pos) (sDrop g) := ps_imp (ps_expr h hs) fun E σ H q => by
  obtain ⟨F, ρ, f, ρ', s, eg, k⟩ := q
  obtain ⟨⟨d, ρ1⟩, e1, eg1⟩ := bind_some eg
  cases eg1
  exact ⟨F, ρ, d, _, s, e1, fun v F1 H1 p1 s1 r1 => k σ F1 H1 p1 s1⟩
theorem setC_some {i : Nat} {c : Cell} {ρ ρ' : Env} (h : setC i c ρ = some ρ') : ρ' = ρ.set i (some c) ∧ (∀ d, ρ[i]? ≠ some (some (.own true d))) ∧ ∃ o, ρ[i]? = some o := by
  unfold setC at h
  split at h
  · cases h
  · rename_i o q n
    refine ⟨(Option.some.inj h).symm, fun d z => ?_, _, n⟩
    rw [n] at z
    cases z
    exact q d rfl
  · cases h
theorem st_set {K : PySem.W.Frag} {F H : Hp} {σ : L2.St} {ρ ρ' : Env} {i : Nat} {c : Cell} {v : V} (s : St K F H σ ρ) (h : setC i c ρ = some ρ') (hc : CellOk K F H (some (some v)) c) (hn : ∀ f d a, c = .own f d → v = .ref a → f = false ∧ ¬ Owns σ ρ a) : St K F H (σ.set i (some v)) ρ' := by
  obtain ⟨rfl, nf, o, ho⟩ := setC_some h
  have hi : i < σ.length := by
    rw [← s.len]
    exact (List.getElem?_eq_some_iff.mp ho).1
  have hσ : (σ.set i (some v))[i]? = some (some v) := List.getElem?_set_self hi
  refine ⟨s.sub, by rw [List.length_set, List.length_set]; exact s.len, fun j cj hj => ?_, fun j l f g dj dl b h1 h2 h3 h4 => ?_⟩
  · by_cases z : j = i
    · subst z
      rw [get_set_self ho] at hj
      cases hj
      rw [hσ]
      exact hc
    · rw [get_set_ne z] at hj ⊢
      exact s.cell j cj hj
  · by_cases z1 : j = i
    · subst z1
      rw [get_set_self ho] at h1
      rw [hσ] at h3
      by_cases z2 : l = j
      · exact z2.symm
      · rw [get_set_ne z2] at h2 h4
        cases h1
        cases h3
        exact absurd ⟨l, g, dl, h2, h4⟩ (hn f dj b rfl rfl).2
    · rw [get_set_ne z1] at h1 h3
      by_cases z2 : l = i
      · subst z2
        rw [get_set_self ho] at h2
        rw [hσ] at h4
        cases h2
        cases h4
        exact absurd ⟨j, f, dj, h1, h3⟩ (hn g dl b rfl rfl).2
      · rw [get_set_ne z2] at h2 h4
        exact s.dist j l f g dj dl b h1 h2 h3 h4
theorem stp_set {F H : Hp} {σ : L2.St} {ρ ρ' : Env} {i : Nat} {c : Cell} {v : V} {H0 : Hp} {F0 : Hp} {σ0 : L2.St} {ρ0 : Env} (p : Stp F0 σ0 ρ0 H0 F σ ρ H) (h : setC i c ρ = some ρ') (hn : ∀ f d a, c = .own f d → v = .ref a → H0 a = none) : Stp F0 σ0 ρ0 H0 F (σ.set i (some v)) ρ' H := by
  obtain ⟨rfl, nf, o, ho⟩ := setC_some h
  refine ⟨p.ff, p.keep, fun b hb => ?_, fun j d hj => ?_, p.dom⟩
  · obtain ⟨j, f, dj, h1, h2⟩ := hb
    by_cases z : j = i
    · subst z
      rw [get_set_self ho] at h1
      cases h1
      have h3 : v = .ref b := by
        by_cases hl : j < σ.length
        · rw [List.getElem?_set_self hl] at h2
          exact Option.some.inj (Option.some.inj h2)
        · rw [List.getElem?_eq_none (by simpa using hl)] at h2
          cases h2
      exact .inr (hn f dj b rfl h3)
    · rw [get_set_ne z] at h1 h2
      exact p.fresh b ⟨j, f, dj, h1, h2⟩
  · obtain ⟨e1, d', e2⟩ := p.fix j d hj
    have z : j ≠ i := fun z => by
      subst z
      exact nf d' e2
    rw [get_set_ne z, get_set_ne z]
    exact ⟨e1, d', e2⟩
theorem ds_set {i : Nat} {pos' : Pos} {g : Md D} (hN : X.N.Nodup) (hi : X.N[i]? = some x) (hx : Loc X.env.scope x) (he : DE X e g) (hs : swapsWith e (some (.Name x pos')) pos.line X.env = pure false := by rfl) (hf : X.fn x = true ∨ X.env.scope.names.lookup x = some .local := by first | exact .inl rfl | exact .inr rfl | assumption) : DS X (.Assign [.Name x pos'] e pos) (sSet i g) :=
  ps_imp (ps_set hN hi hx he hs hf) fun E σ H q => by
    obtain ⟨F, ρ, f, ρ', s, eg, k⟩ := q
    obtain ⟨⟨d, ρ1⟩, e1, eg1⟩ := bind_some eg
    obtain ⟨r, e2, eg2⟩ := bind_some eg1
    cases eg2
    exact ⟨F, ρ, d, ρ1, s, e1, fun v F1 H1 p1 s1 r1 => k _ F1 H1 (stp_set p1 e2 fun _ _ _ z => nomatch z) (st_set s1 e2 ⟨v, rfl, r1⟩ fun _ _ _ z => nomatch z)⟩
theorem ds_own {i : Nat} {pos' : Pos} {g : Md D} (hN : X.N.Nodup) (hi : X.N[i]? = some x) (hx : Loc X.env.scope x) (he : DF X e g) (hs : swapsWith e (some (.Name x pos')) pos.line X.env = pure false := by rfl) (hf : X.fn x = true ∨ X.env.scope.names.lookup x = some .local := by first | exact .inl rfl | exact .inr rfl | assumption) : DS X (.Assign [.Name x pos'] e pos) (sOwn i g) :=
  ps_imp (ps_set hN hi hx he hs hf) fun E σ H q => by
    obtain ⟨F, ρ, f, ρ', s, eg, k⟩ := q
    obtain ⟨⟨d, ρ1⟩, e1, eg1⟩ := bind_some eg
    obtain ⟨r, e2, eg2⟩ := bind_some eg1
    cases eg2
    refine ⟨F, ρ, d, ρ1, s, e1, fun a F1 H1 p1 s1 o no hn => k _ F1 H1 (stp_set p1 e2 fun _ _ b _ z => ?_) (st_set s1 e2 ⟨a, rfl, o⟩ fun f _ b z1 z => ?_)⟩
    · cases z
      exact hn
    · cases z
      cases z1
      exact ⟨rfl, no⟩
/-! ### lists of one's own that are changed -/
def sApp (i : Nat) (g : Md D) : Sd := fun ρ => match ρ[i]? with
  | some (some (.own _ (.list _))) => (g ρ).bind fun p => match p.2[i]? with
    | some (some (.own b (.list ds))) => if ds.length < 16777216 then some (.nx, p.2.set i (some (.own b (.list (ds ++ [p.1]))))) else none
    | _ => none
  | _ => none
theorem own_lst {K : PySem.W.Frag} {F H : Hp} {a : Addr} {ds : List D} (h : OwnAt K F H a (.list ds)) : F a = none ∧ ∃ xs, H a = some (.lst xs) ∧ RpAll K F xs ds := by
  obtain ⟨f, xs, ds', e, hh, r⟩ := h
  cases e
  exact ⟨f, xs, hh, r⟩
theorem own_write {K : PySem.W.Frag} {F H : Hp} {a : Addr} {xs : List V} {ds : List D} {o : HO} (s : Same F H) (hF : F a = none) (hH : H a = some o) (r : RpAll K F xs ds) : OwnAt K F (upd H a (.lst xs)) a (.list ds) ∧ Same F (upd H a (.lst xs)) ∧ ∀ c u, H c = some u → c ≠ a → upd H a (.lst xs) c = some u ∧ F c = F c :=
  ⟨⟨hF, xs, ds, rfl, upd_same, r⟩, fun c u hc => by rw [upd_ne (ne_of_none hc hF)]; exact s c u hc, fun c u hc n => ⟨by rw [upd_ne n]; exact hc, rfl⟩⟩
theorem ds_app (i : Nat) {ce : Expr} {g : Md D} (he : PE X ce (tBM X.K "list" rAppend (tVar i) (tCons (tD X.K g) tNil))) (hs : swapsWith ce none pos.line X.env = pure false := by rfl) : DS X (.Expr ce pos) (sApp i g) :=
  ps_imp (ps_expr he hs) fun E σ H q => by
    obtain ⟨F, ρ, f, ρ', s, eg, k⟩ := q
    unfold sApp at eg
    split at eg
    · rename_i b0 d0 h0
      obtain ⟨a, ea, o0, _⟩ := st_owned s h0
      obtain ⟨_, xs0, hx0, _⟩ := own_lst o0
      obtain ⟨⟨d, ρ1⟩, e1, eg1⟩ := bind_some eg
      simp only at eg1
      split at eg1
      · rename_i b1 ds h1
        split at eg1
        · rename_i hl
          cases eg1
          refine ⟨.ref a, ea, .inl ⟨rfl, xs0, SqL.of hx0⟩, F, ρ, d, ρ1, s, e1, fun v F1 H1 p1 s1 r1 => ?_⟩
          obtain ⟨a1, ea1, o1, _⟩ := st_owned s1 h1
          rw [ea] at ea1
          cases ea1
          obtain ⟨f1, xs, hx, rx⟩ := own_lst o1
          refine ⟨a, xs, v, rfl, rfl, hx, by rw [line_eq, da_len rx]; exact hl, ?_⟩
          obtain ⟨o2, sh, kp⟩ := own_write s1.sub f1 hx (da_app rx (.cons r1 .nil))
          obtain ⟨s2, p2⟩ := st_own_set s1 h1 ea (Same.refl _) sh kp o2
          exact k σ F1 _ (p1.trans p2) s2
        · cases eg1
      · cases eg1
    · cases eg
def ixS (n : Nat) (i : Int) : Option Nat := if 0 ≤ i then (if i < n then some i.toNat else none) else if -(n : Int) ≤ i then some (i + n).toNat else none
def sSetIx (i : Nat) (gv gi : Md D) : Sd := fun ρ => (gv ρ).bind fun p => match p.2[i]? with
  | some (some (.own _ _)) => (gi p.2).bind fun q => (iOf q.1).bind fun z => match q.2[i]? with
    | some (some (.own b (.list ds))) => (ixS ds.length z).bind fun j => some (.nx, q.2.set i (some (.own b (.list (ds.set j p.1)))))
    | _ => none
  | _ => none
theorem ds_setIx (i : Nat) {y : Str} {py tpos : Pos} {gv gi : Md D} (hN : X.N[i]? = some y) (hv : Vis X.env.scope y) (he : DE X e gv) (hi : DE X a gi) (hdy : (y == ("__debug__" : Str)) = false := by decide) (hcd : (y == ("__classdict__" : Str)) = false := by decide)
    (ha : ∀ v, assign (.Subscript (.Name y py) a tpos) X.env v = (do let ov ← holding [v] (eval (.Name y py) X.env); let iv ← holding [v, ov] (eval a X.env); standAt tpos; holding [v, ov, iv] (setItem ov iv v); release [v, ov, iv] []) := by intro _; rfl)
    (hs : swapsWithSole [.Subscript (.Name y py) a tpos] e pos.line X.env = pure false := by rfl) (hw : swappedStores [.Subscript (.Name y py) a tpos] e X.env = pure none := by rfl) : DS X (.Assign [.Subscript (.Name y py) a tpos] e pos) (sSetIx i gv gi) :=
  ps_imp (ps_asg he (pg_sub (pe_var hN hv hdy hcd) hi set_list ha) hs hw) fun E σ H q => by
    obtain ⟨F, ρ, f, ρ', s, eg, k⟩ := q
    obtain ⟨⟨d, ρ1⟩, e1, eg1⟩ := bind_some eg
    simp only at eg1
    split at eg1
    · rename_i b0 d0 h0
      obtain ⟨⟨di, ρ2⟩, e2, eg2⟩ := bind_some eg1
      obtain ⟨z, e3, eg3⟩ := bind_some eg2
      simp only at eg3
      split at eg3
      · rename_i b1 ds h1
        obtain ⟨j, e4, eg4⟩ := bind_some eg3
        cases eg4
        have e5 := iOf_some e3
        simp only at e5
        subst e5
        refine ⟨F, ρ, d, ρ1, s, e1, fun v F1 H1 p1 s1 r1 => ?_⟩
        obtain ⟨a0, ea, o0, _⟩ := st_owned s1 h0
        refine ⟨.ref a0, ea, F1, ρ1, _, ρ2, s1, e2, fun u F2 H2 p2 s2 r2 => ?_⟩
        cases r2
        obtain ⟨a1, ea1, o1, _⟩ := st_owned s2 h1
        rw [ea] at ea1
        cases ea1
        obtain ⟨f1, xs, hx, rx⟩ := own_lst o1
        refine ⟨a0, xs, z, j, rfl, rfl, hx, by rw [da_len rx]; exact e4, ?_⟩
        obtain ⟨o2, sh, kp⟩ := own_write s2.sub f1 hx (da_set (dp_mono p2.ff _ _ r1) j rx)
        obtain ⟨s3, p3⟩ := st_own_set s2 h1 ea (Same.refl _) sh kp o2
        exact k σ F2 _ (p1.trans (p2.trans p3)) s3
      · cases eg3
    · cases eg1
end
end Dn
set_option maxHeartbeats 2000000
/-! targets, loops, comprehensions, defs -/
namespace Dn
open PySem PySem.Spec PyProof.Rows L2

section
variable {X : Cx} {e a b c tg iter : Expr} {es : List Expr} {pos p : Pos} {x : Str}

/-! ### targets -/
def gTN (i : Nat) : D → Env → Option Env := fun d ρ => setC i (.val d) ρ
def tDGs (K : PySem.W.Frag) (is : List Nat) (g : List D → Env → Option Env) : TGs := fun vs σ H Q => ∃ (F : Hp) (ρ : Env) (ds : List D) (ρ' : Env), St K F H σ ρ ∧ RpAll K F vs ds ∧ g ds ρ = some ρ' ∧
  ∀ σ' F' H', Stp F σ ρ H F' σ' ρ' H' → St K F' H' σ' ρ' → (σ'.length = σ.length ∧ ∀ j, j ∉ is → σ'[j]? = σ[j]?) → Q σ' H'
abbrev DGs (X : Cx) (es : List Expr) (is : List Nat) (g : List D → Env → Option Env) : Prop := PGs X es (tDGs X.K is g)
theorem pgs_imp {X : Cx} {e : List Expr} {t t' : TGs} (h : PGs X e t) (i : ∀ v σ H Q, t' v σ H Q → t v σ H Q) : PGs X e t' := ⟨fun pins s σ H v u Q I r q => h.run pins s σ H v u Q I r (i v σ H Q q)⟩
theorem dg_name {i : Nat} (hN : X.N.Nodup) (hi : X.N[i]? = some x) (hx : Loc X.env.scope x) (hf : X.fn x = true ∨ X.env.scope.names.lookup x = some .local := by first | exact .inl rfl | exact .inr rfl | assumption) : DG X (.Name x pos) [i] (gTN i) :=
  pg_imp (pg_name hN hi hx hf) fun v σ H Q q => by
    obtain ⟨F, ρ, d, ρ', s, hd, eg, k⟩ := q
    exact k _ F H (stp_set Stp.refl eg fun _ _ _ z => nomatch z) (st_set s eg ⟨v, rfl, hd⟩ fun _ _ _ z => nomatch z) ⟨List.length_set, fun j hj => get_set_ne (by simpa using hj)⟩
def gTNil : List D → Env → Option Env
  | [], ρ => some ρ
  | _ :: _, _ => none
def gTCons (g : D → Env → Option Env) (gs : List D → Env → Option Env) : List D → Env → Option Env
  | d :: ds, ρ => (g d ρ).bind fun ρ1 => gs ds ρ1
  | [], _ => none
def gTTup (n : Nat) (gs : List D → Env → Option Env) : D → Env → Option Env
  | .tuple ds, ρ => if ds.length = n then gs ds ρ else none
  | _, _ => none
theorem dgs_nil : DGs X [] [] gTNil := pgs_imp pgs_nil fun vs σ H Q q => by
  obtain ⟨F, ρ, ds, ρ', s, hd, eg, k⟩ := q
  cases hd with
  | nil =>
    cases eg
    exact ⟨rfl, k σ F H Stp.refl s ⟨rfl, fun _ _ => rfl⟩⟩
  | cons _ _ => cases eg
theorem dgs_cons {is js : List Nat} {g : D → Env → Option Env} {gs : List D → Env → Option Env} (h1 : DG X e is g) (h2 : DGs X es js gs) (hs : (assignEach (e :: es) X.env).map (·.2) = assign e X.env :: (assignEach es X.env).map (·.2) := by rfl) : DGs X (e :: es) (is ++ js) (gTCons g gs) :=
  pgs_imp (pgs_cons h1 h2 hs) fun vs σ H Q q => by
    obtain ⟨F, ρ, ds, ρ', s, hd, eg, k⟩ := q
    cases hd with
    | nil => cases eg
    | cons r rs =>
      obtain ⟨ρ1, e1, eg1⟩ := bind_some eg
      exact ⟨_, _, rfl, F, ρ, _, ρ1, s, r, e1, fun σ1 F1 H1 p1 s1 w1 => ⟨F1, ρ1, _, ρ', s1, dpAll_mono p1.ff _ _ rs, eg1, fun σ2 F2 H2 p2 s2 w2 => k σ2 F2 H2 (p1.trans p2) s2 ⟨w2.1.trans w1.1, fun j hj => by
        rw [List.mem_append, not_or] at hj
        exact (w2.2 j hj.2).trans (w1.2 j hj.1)⟩⟩⟩
theorem dg_tup {k : Nat} {is : List Nat} {gs : List D → Env → Option Env} {n : Nat} (hc : X.calm = true) (h : DGs X es is gs) (hn : (assignEach es X.env).length = n := by rfl) (hst : (assignEach es X.env).findIdx? (·.1) = none := by rfl) : DG X (.Tuple es k pos) is (gTTup n gs) :=
  pg_imp (pg_tup hc h hn hst) fun v σ H Q q => by
    obtain ⟨F, ρ, d, ρ', s, hd, eg, k⟩ := q
    cases d with
    | tuple ds =>
      have eg' : (if ds.length = n then gs ds ρ else none) = some ρ' := eg
      split at eg'
      · rename_i hl
        cases hd with
        | @tup a vs _ h1 d1 => exact ⟨a, vs, rfl, seqT_same s.sub h1, by rw [da_len d1]; exact hl, F, ρ, ds, ρ', s, d1, eg', k⟩
      · cases eg'
    | none => cases eg
    | bool _ => cases eg
    | int _ => cases eg
    | str _ => cases eg
    | list _ => cases eg
    | dict _ => cases eg
def sAsg (g : Md D) (t : D → Env → Option Env) : Sd := fun ρ => (g ρ).bind fun p => (t p.1 p.2).bind fun r => some (.nx, r)
theorem ds_asg {is : List Nat} {g : Md D} {t : D → Env → Option Env} {st : Stmt} (h : PS X st (tAsg (tD X.K g) (tDG X.K is t))) : DS X st (sAsg g t) :=
  ps_imp h fun E σ H q => by
    obtain ⟨F, ρ, f, ρ', s, eg, k⟩ := q
    obtain ⟨⟨d, ρ1⟩, e1, eg1⟩ := bind_some eg
    obtain ⟨r, e2, eg2⟩ := bind_some eg1
    cases eg2
    exact ⟨F, ρ, d, ρ1, s, e1, fun v F1 H1 p1 s1 r1 => ⟨F1, ρ1, d, _, s1, r1, e2, fun σ2 F2 H2 p2 s2 _ => k σ2 F2 H2 (p1.trans p2) s2⟩⟩

/-! ### what is walked -/
def ItOk (K : PySem.W.Frag) (F : Hp) (J : It) (ds : List D) : Prop := ∀ F1 H, Same F F1 → Same F1 H → ∀ i, (∀ d, ds[i]? = some d → J.go i H ∧ ∀ x H', J.yld i H x H' → ∃ F', Grow F1 H F' H' ∧ Rp K F' x d) ∧ (ds.length ≤ i → J.stop i H)
def tDI (K : PySem.W.Frag) (g : Md (List D)) : TI := fun σ H R => ∃ (F : Hp) (ρ : Env) (ds : List D) (ρ' : Env), St K F H σ ρ ∧ g ρ = some (ds, ρ') ∧
  ∀ J F' H', Stp F σ ρ H F' σ ρ' H' → St K F' H' σ ρ' → ItOk K F' J ds → R J H'
abbrev DI (X : Cx) (tg e : Expr) (g : Md (List D)) : Prop := PI X tg e (tDI X.K g)
theorem pi_imp {X : Cx} {tg e : Expr} {t t' : TI} (h : PI X tg e t) (i : ∀ σ H Q, t' σ H Q → t σ H Q) : PI X tg e t' := ⟨fun pins s σ H Q I q => h.run pins s σ H Q I (i σ H Q q)⟩
def signsL (x : Str) : List D := x.cps.toList.map fun c => .str ⟨#[c]⟩
def seqOf : D → Option (List D)
  | .list ds => some ds
  | .tuple ds => some ds
  | .str x => some (signsL x)
  | _ => none
def gSeq (g : Md D) : Md (List D) := fun ρ => (g ρ).bind fun p => (seqOf p.1).bind fun ds => some (ds, p.2)
def iSeq (K : PySem.W.Frag) (tl : TE) : TI := fun σ H R => tl σ H fun v H1 => (∃ x, v = .str x ∧ R (Its x) H1) ∨ ∃ a, v = .ref a ∧ (((∃ xs, SqL K H1 a xs) ∧ R (Itl K a) H1) ∨ ((∃ xs, SqT K H1 a xs) ∧ R (Itt K a) H1))
theorem pi_seq {l : Expr} {tl : TE} (hl : PE X l tl) : PI X tg l (iSeq X.K tl) := by
  refine ⟨fun pins s σ H R I h => ?_⟩
  refine thn (hl.run pins s σ H _ I h) fun v s1 ⟨y, H1, I1, r1, q1⟩ => ?_
  rcases q1 with ⟨x, ex, q⟩ | ⟨a, e, q⟩
  · subst ex
    obtain ⟨t, rfl⟩ := r1
    cases ha : x.cps.all (· < 128)
    · exact wpAny_pyIter_wide ha (pi_one (tk := s1.toks) I1 _ (turn_str _ x t "str_iterator" (.inr rfl)) ⟨_, Heap.get?_push_size _ rfl, rfl, rfl⟩ q)
    · exact wpAny_pyIter_ascii ha (pi_one (tk := s1.toks) I1 _ (turn_str _ x t "str_ascii_iterator" (.inl rfl)) ⟨_, Heap.get?_push_size _ rfl, rfl, rfl⟩ q)
  subst e
  cases r1
  have fp : ∀ b ∈ [s1.heap.objs.size], FpOk X pins H1 b := fun b hb => by
    have e : b = s1.heap.objs.size := by simpa using hb
    subst e
    exact I1.fpOk (Nat.le_refl _) (I1.hok.fresh (Nat.le_refl _))
  rcases q with ⟨⟨xs, hq⟩, q⟩ | ⟨⟨xs, hq⟩, q⟩
  · obtain ⟨its, rv, p, hz⟩ := I1.list hq
    refine wpAny_pyIter_list p.isList ?_
    exact ⟨s1.heap.objs.size, [s1.heap.objs.size], _, _, H1, rfl, I1.kept (t' := s1.toks) fun b o e => Heap.get?_push_of_some _ e, turn_list a _, ⟨_, Heap.get?_push_size _ rfl, rfl, rfl⟩, fp, q⟩
  · obtain ⟨its, rv, p, hz⟩ := I1.tuple hq
    refine wpAny_pyIter_tuple (show s1.heap.IsTuple a its.toArray from p) ?_
    exact ⟨s1.heap.objs.size, [s1.heap.objs.size], _, _, H1, rfl, I1.kept (t' := s1.toks) fun b o e => Heap.get?_push_of_some _ e, turn_tuple a _, ⟨_, Heap.get?_push_size _ rfl, rfl, rfl⟩, fp, q⟩
theorem it_str {K : PySem.W.Frag} {F : Hp} {x : Str} : ItOk K F (Its x) (signsL x) := fun F1 H s1 s2 i => by
  have hl : (signsL x).length = x.cps.size := by simp [signsL]
  refine ⟨fun d e => ?_, fun h => by rw [hl] at h; exact h⟩
  have hi : i < x.cps.size := by
    have := (List.getElem?_eq_some_iff.mp e).1
    rw [hl] at this
    exact this
  refine ⟨hi, fun y H' hy => ?_⟩
  obtain ⟨rfl, c, hc, rfl⟩ := hy
  have e2 : d = .str ⟨#[c]⟩ := by
    unfold signsL at e
    rw [List.getElem?_map, Array.getElem?_toList, hc] at e
    exact (Option.some.inj e).symm
  subst e2
  exact ⟨F1, Grow.refl s2, .str _⟩
theorem it_list {K : PySem.W.Frag} {F : Hp} {a : Addr} {vs : List V} {ds : List D} (h : SqL K F a vs) (r : RpAll K F vs ds) : ItOk K F (Itl K a) ds := fun F1 H s1 s2 i => by
  have hH := (s1.trans s2).seq h
  refine ⟨fun d e => ?_, fun hl => ⟨vs, hH, by rw [da_len r]; exact hl⟩⟩
  obtain ⟨v, e1, rv⟩ := da_at r e
  refine ⟨⟨vs, v, hH, e1⟩, fun y H' hy => ?_⟩
  obtain ⟨rfl, hy⟩ := hy
  have e2 := (hy vs hH).symm.trans e1
  cases e2
  exact ⟨F1, Grow.refl s2, dp_mono s1 _ _ rv⟩
theorem it_tup {K : PySem.W.Frag} {F : Hp} {a : Addr} {vs : List V} {ds : List D} (h : SqT K F a vs) (r : RpAll K F vs ds) : ItOk K F (Itt K a) ds := fun F1 H s1 s2 i => by
  have hH := seqT_same (s1.trans s2) h
  refine ⟨fun d e => ?_, fun hl => ⟨vs, hH, by rw [da_len r]; exact hl⟩⟩
  obtain ⟨v, e1, rv⟩ := da_at r e
  refine ⟨⟨vs, v, hH, e1⟩, fun y H' hy => ?_⟩
  obtain ⟨rfl, hy⟩ := hy
  have e2 := (hy vs hH).symm.trans e1
  cases e2
  exact ⟨F1, Grow.refl s2, dp_mono s1 _ _ rv⟩
theorem di_seq {g : Md D} (h : DE X e g) : DI X tg e (gSeq g) := pi_imp (pi_seq h) fun σ H R q => by
  obtain ⟨F, ρ, ds, ρ', s, eg, k⟩ := q
  obtain ⟨⟨d, ρ1⟩, e1, eg1⟩ := bind_some eg
  obtain ⟨z, e2, eg2⟩ := bind_some eg1
  cases eg2
  refine ⟨F, ρ, d, _, s, e1, fun v F1 H1 p1 s1 r1 => ?_⟩
  cases d with
  | list xs =>
    cases e2
    cases r1 with
    | @lst a vs _ h1 d1 => exact .inr ⟨a, rfl, .inl ⟨⟨vs, s1.sub.seq h1⟩, k _ F1 H1 p1 s1 (it_list h1 d1)⟩⟩
  | tuple xs =>
    cases e2
    cases r1 with
    | @tup a vs _ h1 d1 => exact .inr ⟨a, rfl, .inr ⟨⟨vs, seqT_same s1.sub h1⟩, k _ F1 H1 p1 s1 (it_tup h1 d1)⟩⟩
  | none => cases e2
  | bool _ => cases e2
  | int _ => cases e2
  | str z =>
    cases e2
    cases r1
    exact .inl ⟨z, rfl, k _ F1 H1 p1 s1 it_str⟩
  | dict _ => cases e2
/-- range(a), range(a, b) -/
def rngL (lo : Int) (n : Nat) : List D := (List.range n).map fun i : Nat => .int (lo + i)
def small62 (j : Int) : Bool := decide (-(2 ^ 62) ≤ j ∧ j < 2 ^ 62)
def gRng1 (gs : Md (List D)) : Md (List D) := fun ρ => (gs ρ).bind fun p => match p.1 with
  | [.int j] => if small62 j = true then some (rngL 0 j.toNat, p.2) else none
  | _ => none
def gRng2 (gs : Md (List D)) : Md (List D) := fun ρ => (gs ρ).bind fun p => match p.1 with
  | [.int i, .int j] => if small62 i = true ∧ small62 j = true then some (rngL i (j - i).toNat, p.2) else none
  | _ => none
theorem it_rng {K : PySem.W.Frag} {F : Hp} {lo : Int} {n : Nat} : ItOk K F (Itr lo n) (rngL lo n) := fun F1 H s1 s2 i => by
  have hl : (rngL lo n).length = n := by simp [rngL]
  refine ⟨fun d e => ?_, fun h => by rw [hl] at h; exact h⟩
  have hi : i < n := by
    have := (List.getElem?_eq_some_iff.mp e).1
    rw [hl] at this
    exact this
  have ed : d = .int (lo + i) := by
    unfold rngL at e
    rw [List.getElem?_map, List.getElem?_range hi] at e
    exact (Option.some.inj e).symm
  subst ed
  refine ⟨hi, fun y H' hy => ?_⟩
  obtain ⟨rfl, rfl⟩ := hy
  exact ⟨F1, Grow.refl s2, .int _⟩
theorem di_rng1 {gs : Md (List D)} {p pos : Pos} (hg : Gl X "range") (hm : X.mg "range" = none) (ha : DA X [a] gs) (hs : starEach [a] X.env = [(false, eval a X.env)] := by rfl) : DI X tg (.Call (.Name "range" p) [a] [] pos) (gRng1 gs) :=
  pi_imp (pi_range1 hg hm ha hs) fun σ H R q => by
    obtain ⟨F, ρ, ds, ρ', s, eg, k⟩ := q
    obtain ⟨⟨d, ρ1⟩, e1, eg1⟩ := bind_some eg
    simp only at eg1
    split at eg1
    · rename_i j
      split at eg1
      · rename_i hj
        cases eg1
        have hj' := of_decide_eq_true hj
        refine ⟨F, ρ, _, _, s, e1, fun vs F1 H1 p1 s1 r1 => ?_⟩
        obtain ⟨v, rfl, rv⟩ := da1 r1
        cases rv
        exact ⟨j, rfl, hj'.1, hj'.2, k _ F1 H1 p1 s1 it_rng⟩
      · cases eg1
    · cases eg1
theorem di_rng2 {gs : Md (List D)} {p pos : Pos} (hg : Gl X "range") (hm : X.mg "range" = none) (ha : DA X [a, b] gs) (hs : starEach [a, b] X.env = [(false, eval a X.env), (false, eval b X.env)] := by rfl) (hs2 : starEach [b] X.env = [(false, eval b X.env)] := by rfl) : DI X tg (.Call (.Name "range" p) [a, b] [] pos) (gRng2 gs) :=
  pi_imp (pi_range2 hg hm ha hs hs2) fun σ H R q => by
    obtain ⟨F, ρ, ds, ρ', s, eg, k⟩ := q
    obtain ⟨⟨d, ρ1⟩, e1, eg1⟩ := bind_some eg
    simp only at eg1
    split at eg1
    · rename_i i j
      split at eg1
      · rename_i hj
        cases eg1
        have hi' := of_decide_eq_true hj.1
        have hj' := of_decide_eq_true hj.2
        refine ⟨F, ρ, _, _, s, e1, fun vs F1 H1 p1 s1 r1 => ?_⟩
        obtain ⟨v, w, rfl, rv, rw'⟩ := da2 r1
        cases rv
        cases rw'
        exact ⟨i, j, rfl, ⟨hi'.1, hi'.2, hj'.1, hj'.2⟩, k _ F1 H1 p1 s1 it_rng⟩
      · cases eg1
    · cases eg1

/-! ### for, while -/
def forD (tg : D → Env → Option Env) (body : Sd) : List D → Sd
  | [] => fun ρ => some (.nx, ρ)
  | d :: ds => fun ρ => (tg d ρ).bind fun ρ1 => (body ρ1).bind fun p => match p.1 with
    | .nx => forD tg body ds p.2
    | .cnt => forD tg body ds p.2
    | .brk => some (.nx, p.2)
    | .ret r => some (.ret r, p.2)
    | .rof r => some (.rof r, p.2)
def sFor (gi : Md (List D)) (tg : D → Env → Option Env) (body : Sd) : Sd := fun ρ => (gi ρ).bind fun p => forD tg body p.1 p.2
theorem drop_cons {α : Type} {l : List α} {i : Nat} {d : α} (h : l[i]? = some d) : l.drop i = d :: l.drop (i + 1) := by
  obtain ⟨hl, e⟩ := List.getElem?_eq_some_iff.mp h
  rw [List.drop_eq_getElem_cons hl, e]
theorem ds_for {gi : Md (List D)} {gt : D → Env → Option Env} {gb : Sd} {body : List Stmt} (hp : PassesOwn (model X.prog X.w) X.A X.env X.xe) (hc : X.calm = true) (hi : DI X tg iter gi) {is : List Nat} (hg : DG X tg is gt) (hb : DSs X body gb) (hs : ∀ x, foldedSetIterable iter X.env x = pure x := by intro _; rfl) : DS X (.For tg iter body [] pos) (sFor gi gt gb) :=
  ps_imp (ps_for hp hc hi hg hb hs) fun E σ H q => by
    obtain ⟨F, ρ, f, ρ', s, eg, k⟩ := q
    obtain ⟨⟨ds, ρ1⟩, e1, eg1⟩ := bind_some eg
    refine ⟨F, ρ, ds, ρ1, s, e1, fun J F1 H1 p1 s1 ok => ?_⟩
    refine ⟨fun i m σi Hi => ∃ Fi ρi, m = ds.length - i ∧ i ≤ ds.length ∧ Stp F σ ρ H Fi σi ρi Hi ∧ St X.K Fi Hi σi ρi ∧ Same F1 Fi ∧ forD gt gb (ds.drop i) ρi = some (f, ρ'), ⟨ds.length, F1, ρ1, by simp, Nat.zero_le _, p1, s1, Same.refl _, by simpa using eg1⟩, ?_⟩
    rintro i m σi Hi ⟨Fi, ρi, rfl, hi, pi, si, sf, ei⟩
    by_cases hlt : i < ds.length
    · have hd : ds[i]? = some ds[i] := List.getElem?_eq_getElem hlt
      obtain ⟨ok1, _⟩ := ok Fi Hi sf si.sub i
      obtain ⟨go, yl⟩ := ok1 _ hd
      rw [drop_cons hd] at ei
      obtain ⟨ρ2, e2, ei1⟩ := bind_some ei
      obtain ⟨⟨f3, ρ3⟩, e3, ei2⟩ := bind_some ei1
      refine .inr ⟨go, fun σ' H' => ∃ F' ρ'', Stp F σ ρ H F' σ' ρ'' H' ∧ St X.K F' H' σ' ρ'' ∧ Same F1 F' ∧ forD gt gb (ds.drop (i + 1)) ρ'' = some (f, ρ'), fun σ' H' ⟨F', ρ'', h1, h2, h3, h4⟩ => ⟨ds.length - (i + 1), by omega, F', ρ'', rfl, hlt, h1, h2, h3, h4⟩, fun v H' hy => ?_⟩
      obtain ⟨F', gr, rv⟩ := yl v H' hy
      have p' := pi.trans (gr.stp σi ρi)
      refine ⟨F', ρi, _, ρ2, si.grow gr, rv, e2, fun σ2 F2 H2 p2 s2 _ => ⟨F2, ρ2, f3, ρ3, s2, e3, fun σ3 F3 H3 p3 s3 => ?_⟩⟩
      have pp := p'.trans (p2.trans p3)
      have sff := sf.trans (gr.ff.trans (p2.ff.trans p3.ff))
      cases f3 with
      | nx => exact ⟨F3, ρ3, pp, s3, sff, ei2⟩
      | cnt => exact ⟨F3, ρ3, pp, s3, sff, ei2⟩
      | brk =>
        cases ei2
        exact k σ3 F3 H3 pp s3
      | ret r =>
        cases ei2
        exact k σ3 F3 H3 pp s3
      | rof r =>
        cases ei2
        exact fl_base (k σ3 F3 H3 pp s3) fun _ n => p'.none (p2.none n)
    · have hl : i = ds.length := by omega
      obtain ⟨_, st⟩ := ok Fi Hi sf si.sub i
      rw [List.drop_of_length_le (by omega)] at ei
      cases ei
      exact .inl ⟨st (by omega), k σi Fi Hi pi si⟩
def whileD (c : Md Bool) (body : Sd) : Nat → Sd
  | 0 => fun _ => none
  | n + 1 => fun ρ => (c ρ).bind fun q => if q.1 = true then (body q.2).bind fun p => match p.1 with
    | .nx => whileD c body n p.2
    | .cnt => whileD c body n p.2
    | .brk => some (.nx, p.2)
    | .ret r => some (.ret r, p.2)
    | .rof r => some (.rof r, p.2) else some (.nx, q.2)
theorem ds_while (n : Nat) {gc : Md Bool} {gb : Sd} {body : List Stmt} (hp : PassesOwn (model X.prog X.w) X.A X.env X.xe) (hc : DT X c gc) (hb : DSs X body gb) : DS X (.While c body [] pos) (whileD gc gb n) :=
  ps_imp (ps_while hp hc hb) fun E σ H q => by
    obtain ⟨F, ρ, f, ρ', s, eg, k⟩ := q
    refine ⟨fun m σi Hi => ∃ Fi ρi, Stp F σ ρ H Fi σi ρi Hi ∧ St X.K Fi Hi σi ρi ∧ whileD gc gb m ρi = some (f, ρ'), ⟨n, F, ρ, Stp.refl, s, eg⟩, ?_⟩
    rintro m σi Hi ⟨Fi, ρi, pi, si, ei⟩
    cases m with
    | zero => cases ei
    | succ m =>
      obtain ⟨⟨b, ρ1⟩, e1, ei1⟩ := bind_some ei
      refine ⟨Fi, ρi, b, ρ1, si, e1, fun F1 H1 p1 s1 => ?_⟩
      cases b with
      | false =>
        rw [if_neg Bool.false_ne_true] at ei1 ⊢
        cases ei1
        exact k σi F1 H1 (pi.trans p1) s1
      | true =>
        rw [if_pos rfl] at ei1 ⊢
        obtain ⟨⟨f3, ρ3⟩, e3, ei2⟩ := bind_some ei1
        refine ⟨fun σ' H' => ∃ F' ρ'', Stp F σ ρ H F' σ' ρ'' H' ∧ St X.K F' H' σ' ρ'' ∧ whileD gc gb m ρ'' = some (f, ρ'), fun σ' H' ⟨F', ρ'', h1, h2, h3⟩ => ⟨m, Nat.lt_succ_self _, F', ρ'', h1, h2, h3⟩, F1, ρ1, f3, ρ3, s1, e3, fun σ3 F3 H3 p3 s3 => ?_⟩
        have pp := pi.trans (p1.trans p3)
        cases f3 with
        | nx => exact ⟨F3, ρ3, pp, s3, ei2⟩
        | cnt => exact ⟨F3, ρ3, pp, s3, ei2⟩
        | brk =>
          cases ei2
          exact k σ3 F3 H3 pp s3
        | ret r =>
          cases ei2
          exact k σ3 F3 H3 pp s3
        | rof r =>
          cases ei2
          exact fl_base (k σ3 F3 H3 pp s3) fun _ n => pi.none (p1.none n)

/-! ### comprehensions -/
def wipeE (ρ : Env) : List Nat → Env
  | [] => ρ
  | v :: vs => (wipeE ρ vs).set v none
def notOwn (ρ : Env) (i : Nat) : Bool := match ρ[i]? with
  | some (some (.own _ _)) => false
  | _ => true
def backE (ρ0 : Env) : List Nat → Env → Env
  | [], ρ => ρ
  | v :: vs, ρ => match ρ0[v]? with
    | some o => (backE ρ0 vs ρ).set v o
    | none => backE ρ0 vs ρ
def lcD (vs : List Nat) (tg : D → Env → Option Env) (tt : Md Bool) (te : Md D) : List D → Env → Option (List D × Env)
  | [], ρ => some ([], ρ)
  | d :: ds, ρ => (tg d ρ).bind fun ρ1 => (tt ρ1).bind fun p => if p.1 = true then (te p.2).bind fun q => (lcD vs tg tt te ds (wipeE q.2 vs)).bind fun r => some (q.1 :: r.1, r.2) else lcD vs tg tt te ds (wipeE p.2 vs)
def gLc (vs : List Nat) (gi : Md (List D)) (tg : D → Env → Option Env) (tt : Md Bool) (te : Md D) : Md D := fun ρ => (gi ρ).bind fun p =>
  if p.1.length ≤ 16777216 ∧ vs.all (notOwn p.2) = true then (lcD vs tg tt te p.1 (wipeE p.2 vs)).bind fun r => some (.list r.1, backE p.2 vs r.2) else none
def gTrue : Md Bool := fun ρ => some (true, ρ)
theorem wipeE_out {ρ : Env} {i : Nat} : ∀ {vs : List Nat}, i ∉ vs → (wipeE ρ vs)[i]? = ρ[i]?
  | [], _ => rfl
  | v :: vs, h => by
    unfold wipeE
    rw [List.getElem?_set_ne (fun z => h (by rw [z]; exact List.mem_cons_self)), wipeE_out fun z => h (List.mem_cons_of_mem _ z)]
theorem wipeE_in {ρ : Env} {i : Nat} {c : Cell} : ∀ {vs : List Nat}, (wipeE ρ vs)[i]? = some (some c) → i ∉ vs
  | [], _ => by simp
  | v :: vs, h => by
    unfold wipeE at h
    by_cases z : v = i
    · subst z
      by_cases hl : v < (wipeE ρ vs).length
      · rw [List.getElem?_set_self hl] at h
        cases h
      · rw [List.getElem?_eq_none (by simpa using hl)] at h
        cases h
    · rw [List.getElem?_set_ne z] at h
      have := wipeE_in h
      simp only [List.mem_cons, not_or]
      exact ⟨fun y => z y.symm, this⟩
theorem wipeE_len (ρ : Env) : ∀ vs : List Nat, (wipeE ρ vs).length = ρ.length
  | [] => rfl
  | v :: vs => by
    unfold wipeE
    rw [List.length_set, wipeE_len ρ vs]
theorem wipeE_cell {ρ : Env} {vs : List Nat} {i : Nat} {c : Cell} (h : (wipeE ρ vs)[i]? = some (some c)) : ρ[i]? = some (some c) ∧ i ∉ vs := by
  have n := wipeE_in h
  rw [wipeE_out n] at h
  exact ⟨h, n⟩
theorem backE_len (ρ0 ρ : Env) : ∀ vs : List Nat, (backE ρ0 vs ρ).length = ρ.length
  | [] => rfl
  | v :: vs => by
    unfold backE
    split
    · rw [List.length_set, backE_len ρ0 ρ vs]
    · exact backE_len ρ0 ρ vs
theorem backE_out {ρ0 ρ : Env} {i : Nat} : ∀ {vs : List Nat}, i ∉ vs → (backE ρ0 vs ρ)[i]? = ρ[i]?
  | [], _ => rfl
  | v :: vs, h => by
    unfold backE
    have h1 : i ∉ vs := fun z => h (List.mem_cons_of_mem _ z)
    split
    · rw [List.getElem?_set_ne (fun z => h (by rw [z]; exact List.mem_cons_self)), backE_out h1]
    · exact backE_out h1
theorem backE_in {ρ0 ρ : Env} {i : Nat} (hl : ρ.length = ρ0.length) : ∀ {vs : List Nat}, i ∈ vs → (backE ρ0 vs ρ)[i]? = ρ0[i]?
  | [], h => by simp at h
  | v :: vs, h => by
    unfold backE
    by_cases z : v = i
    · subst z
      split
      · rename_i o e
        rw [List.getElem?_set_self (by rw [backE_len, hl]; exact (List.getElem?_eq_some_iff.mp e).1), e]
      · rename_i e
        have hl2 : ρ0.length ≤ v := List.getElem?_eq_none_iff.mp e
        rw [e]
        exact List.getElem?_eq_none (by rw [backE_len, hl]; exact hl2)
    · have h1 : i ∈ vs := (List.mem_cons.mp h).resolve_left fun y => z y.symm
      split
      · rw [List.getElem?_set_ne z, backE_in hl h1]
      · exact backE_in hl h1
theorem wipe_out' {σ : L2.St} {i : Nat} {vs : List Nat} (h : i ∉ vs) : (wipe σ vs)[i]? = σ[i]? := wipe_out h
theorem st_wipe {K : PySem.W.Frag} {F H : Hp} {σ : L2.St} {ρ : Env} (s : St K F H σ ρ) (vs : List Nat) : St K F H (wipe σ vs) (wipeE ρ vs) where
  sub := s.sub
  len := by rw [wipeE_len, wipe_length]; exact s.len
  cell := fun i c e => by
    obtain ⟨e1, n⟩ := wipeE_cell e
    rw [wipe_out' n]
    exact s.cell i c e1
  dist := fun i j f g d e a h1 h2 h3 h4 => by
    obtain ⟨e1, n1⟩ := wipeE_cell h1
    obtain ⟨e2, n2⟩ := wipeE_cell h2
    rw [wipe_out' n1] at h3
    rw [wipe_out' n2] at h4
    exact s.dist i j f g d e a e1 e2 h3 h4
theorem not_own {ρ : Env} {vs : List Nat} (h : vs.all (notOwn ρ) = true) {i : Nat} (hi : i ∈ vs) {f : Bool} {d : D} : ρ[i]? ≠ some (some (.own f d)) := fun e => by
  have z := List.all_eq_true.mp h i hi
  unfold notOwn at z
  rw [e] at z
  cases z
theorem stp_wipe {F0 F : Hp} {σ0 σ : L2.St} {ρ0 ρ : Env} {H0 H : Hp} (p : Stp F0 σ0 ρ0 H0 F σ ρ H) {vs : List Nat} (hn : ∀ i d, ρ0[i]? = some (some (.own true d)) → i ∉ vs) : Stp F0 σ0 ρ0 H0 F (wipe σ vs) (wipeE ρ vs) H where
  ff := p.ff
  keep := p.keep
  fresh := fun b hb => by
    obtain ⟨i, f, d, e1, e2⟩ := hb
    obtain ⟨e3, n⟩ := wipeE_cell e1
    rw [wipe_out' n] at e2
    exact p.fresh b ⟨i, f, d, e3, e2⟩
  fix := fun i d h => by
    obtain ⟨e1, d', e2⟩ := p.fix i d h
    have n := hn i d h
    rw [wipe_out' n, wipeE_out n]
    exact ⟨e1, d', e2⟩
  dom := p.dom
theorem st_side {K : PySem.W.Frag} {F H : Hp} {σ : L2.St} {ρ : Env} {b : Addr} {o : HO} (s : St K F H σ ρ) (hF : F b = none) (n : ¬ Owns σ ρ b) : St K F (upd H b o) σ ρ where
  sub := fun c u h => by rw [upd_ne (fun z => by subst z; rw [hF] at h; cases h)]; exact s.sub c u h
  len := s.len
  cell := fun i c e => by
    have q := s.cell i c e
    cases c with
    | val d => exact q
    | own f d =>
      obtain ⟨a, e1, f0, xs, ds, e2, e3, r⟩ := q
      refine ⟨a, e1, f0, xs, ds, e2, ?_, r⟩
      rw [upd_ne (fun z => n (by subst z; exact ⟨i, f, d, e, e1⟩))]
      exact e3
  dist := s.dist
theorem stp_side {F0 F : Hp} {σ0 σ : L2.St} {ρ0 ρ : Env} {H0 H : Hp} (p : Stp F0 σ0 ρ0 H0 F σ ρ H) {b : Addr} {o : HO} (hb : H0 b = none) : Stp F0 σ0 ρ0 H0 F σ ρ (upd H b o) :=
  ⟨p.ff, fun c u h n => by rw [upd_ne (ne_of_none h hb)]; exact p.keep c u h n, p.fresh, p.fix, fun c u h => by rw [upd_ne (ne_of_none h hb)]; exact p.dom c u h⟩
theorem stp_back {F0 F : Hp} {σ : L2.St} {ρ0 ρ : Env} {H0 H : Hp} {vs : List Nat} (p : Stp F0 σ ρ0 H0 F (wipe σ vs) ρ H) (hl : ρ.length = ρ0.length) (hn : vs.all (notOwn ρ0) = true) : Stp F0 σ ρ0 H0 F σ (backE ρ0 vs ρ) H ∧ ∀ b, Owns σ (backE ρ0 vs ρ) b → Owns (wipe σ vs) ρ b := by
  have sub : ∀ b, Owns σ (backE ρ0 vs ρ) b → Owns (wipe σ vs) ρ b := fun b hb => by
    obtain ⟨i, f, d, e1, e2⟩ := hb
    by_cases hi : i ∈ vs
    · rw [backE_in hl hi] at e1
      exact absurd e1 (not_own hn hi)
    · rw [backE_out hi] at e1
      exact ⟨i, f, d, e1, by rw [wipe_out' hi]; exact e2⟩
  refine ⟨⟨p.ff, p.keep, fun b hb => p.fresh b (sub b hb), fun i d h => ?_, p.dom⟩, sub⟩
  have hi : i ∉ vs := fun z => not_own hn z h
  obtain ⟨e1, d', e2⟩ := p.fix i d h
  exact ⟨rfl, d', by rw [backE_out hi]; exact e2⟩
theorem st_back {K : PySem.W.Frag} {F0 F H0 H : Hp} {σ : L2.St} {ρ0 ρ : Env} {vs : List Nat} (s0 : St K F0 H0 σ ρ0) (s : St K F H (wipe σ vs) ρ) (sf : Same F0 F) (hn : vs.all (notOwn ρ0) = true) : St K F H σ (backE ρ0 vs ρ) := by
  have hl : ρ.length = ρ0.length := by rw [s.len, wipe_length, s0.len]
  have own : ∀ (i : Nat) (f : Bool) (d : D), (backE ρ0 vs ρ)[i]? = some (some (.own f d)) → i ∉ vs ∧ ρ[i]? = some (some (.own f d)) := fun i f d e => by
    by_cases hi : i ∈ vs
    · rw [backE_in hl hi] at e
      exact absurd e (not_own hn hi)
    · rw [backE_out hi] at e
      exact ⟨hi, e⟩
  refine ⟨s.sub, by rw [backE_len, hl]; exact s0.len, fun i c e => ?_, fun i j f g d e a h1 h2 h3 h4 => ?_⟩
  · by_cases hi : i ∈ vs
    · rw [backE_in hl hi] at e
      cases c with
      | val d =>
        obtain ⟨v, e1, r⟩ := s0.cell i _ e
        exact ⟨v, e1, dp_mono sf _ _ r⟩
      | own f d => exact absurd e (not_own hn hi)
    · rw [backE_out hi] at e
      have q := s.cell i c e
      rw [wipe_out' hi] at q
      exact q
  · obtain ⟨n1, e1⟩ := own i f d h1
    obtain ⟨n2, e2⟩ := own j g e h2
    exact s.dist i j f g d e a e1 e2 (by rw [wipe_out' n1]; exact h3) (by rw [wipe_out' n2]; exact h4)
theorem wipe_in' {σ : L2.St} {i : Nat} (hi : i < σ.length) : ∀ {vs : List Nat}, i ∈ vs → (wipe σ vs)[i]? = some none
  | [], h => by simp at h
  | v :: vs, h => by
    unfold wipe
    by_cases z : v = i
    · subst z
      exact List.getElem?_set_self (by rw [wipe_length]; exact hi)
    · rw [List.getElem?_set_ne z]
      exact wipe_in' hi ((List.mem_cons.mp h).resolve_left fun y => z y.symm)
theorem wipe_eq {σ σ2 : L2.St} {vs is : List Nat} (hs : ∀ j, j ∉ is → σ2[j]? = (wipe σ vs)[j]?) (hv : ∀ j ∈ is, j ∈ vs) (hl : σ2.length = σ.length) : wipe σ2 vs = wipe σ vs := by
  refine List.ext_getElem? fun j => ?_
  by_cases hj : j ∈ vs
  · by_cases h : j < σ.length
    · rw [wipe_in' h hj, wipe_in' (by rw [hl]; exact h) hj]
    · rw [List.getElem?_eq_none (by rw [wipe_length, hl]; omega), List.getElem?_eq_none (by rw [wipe_length]; omega)]
  · rw [wipe_out' hj]
    exact hs j fun z => hj (hv j z)
theorem lc_q {vs is : List Nat} (hv : ∀ j ∈ is, j ∈ vs) {gi : Md (List D)} {gt : D → Env → Option Env} {gc : Md Bool} {ge : Md D} {σ : L2.St} {H : Hp} {Q : VK} (q : tF X.K (gLc vs gi gt gc ge) σ H Q) : tLc (tDI X.K gi) (tDG X.K is gt) (tDT X.K gc) (tD X.K ge) vs σ H Q := by
    obtain ⟨F, ρ, d, ρ', s, eg, k⟩ := q
    obtain ⟨⟨ds, ρ1⟩, e1, eg1⟩ := bind_some eg
    simp only at eg1
    split at eg1
    · rename_i hl
      obtain ⟨⟨rs, ρe⟩, e2, eg2⟩ := bind_some eg1
      cases eg2
      refine ⟨F, ρ, ds, ρ1, s, e1, fun J F1 H1 p1 s1 ok D hD => ?_⟩
      have hw := st_wipe s1 vs
      have hnv : ∀ i dd, ρ1[i]? = some (some (.own true dd)) → i ∉ vs := fun i dd e hi => not_own hl.2 hi e
      have p1w : Stp F1 σ ρ1 H1 F1 (wipe σ vs) (wipeE ρ1 vs) H1 := stp_wipe Stp.refl hnv
      have nD0 : ¬ Owns (wipe σ vs) (wipeE ρ1 vs) D := not_owns hw hD
      refine ⟨fun i m Hi => ∃ Fi ρi acc as rr, m = ds.length - i ∧ i ≤ ds.length ∧ Stp F1 σ ρ1 H1 Fi (wipe σ vs) ρi Hi ∧ St X.K Fi Hi (wipe σ vs) ρi ∧ lcD vs gt gc ge (ds.drop i) ρi = some (rr, ρe) ∧ as ++ rr = rs ∧ (Fi D = none ∧ ¬ Owns (wipe σ vs) ρi D) ∧ Hi D = some (.lst acc) ∧ RpAll X.K Fi acc as ∧ as.length ≤ i,
        ⟨ds.length, F1, wipeE ρ1 vs, [], [], rs, by simp, Nat.zero_le _, p1w.trans ((Grow.own s1.sub hD).stp _ _), hw.grow (Grow.own s1.sub hD), by simpa using e2, by simp, ⟨none_sub s1.sub hD, nD0⟩, upd_same, .nil, by simp⟩, ?_⟩
      rintro i m Hi ⟨Fi, ρi, acc, as, rr, rfl, hi, pi, si, ei, er, ⟨fD, nD⟩, hDi, ra, la⟩
      have sff : Same F1 Fi := pi.ff
      by_cases hlt : i < ds.length
      · have hd : ds[i]? = some ds[i] := List.getElem?_eq_getElem hlt
        obtain ⟨ok1, _⟩ := ok Fi Hi sff si.sub i
        obtain ⟨go, yl⟩ := ok1 _ hd
        rw [drop_cons hd] at ei
        obtain ⟨ρ2, e3, ei1⟩ := bind_some ei
        obtain ⟨⟨b, ρ3⟩, e4, ei2⟩ := bind_some ei1
        refine .inr ⟨go, fun H' => ∃ F' ρ'' acc' as' rr', Stp F1 σ ρ1 H1 F' (wipe σ vs) ρ'' H' ∧ St X.K F' H' (wipe σ vs) ρ'' ∧ lcD vs gt gc ge (ds.drop (i + 1)) ρ'' = some (rr', ρe) ∧ as' ++ rr' = rs ∧ (F' D = none ∧ ¬ Owns (wipe σ vs) ρ'' D) ∧ H' D = some (.lst acc') ∧ RpAll X.K F' acc' as' ∧ as'.length ≤ i + 1,
          fun H' ⟨F', ρ'', acc', as', rr', z1, z2, z3, z4, z5, z6, z7, z8⟩ => ⟨ds.length - (i + 1), by omega, F', ρ'', acc', as', rr', rfl, hlt, z1, z2, z3, z4, z5, z6, z7, z8⟩, fun v H' hy => ?_⟩
        obtain ⟨F', gr, rv⟩ := yl v H' hy
        have q0 := gr.stp (wipe σ vs) ρi
        refine ⟨F', ρi, _, ρ2, si.grow gr, rv, e3, fun σ2 F2 H2 p2 s2 w2 => ?_⟩
        have ew : wipe σ2 vs = wipe σ vs := wipe_eq w2.2 hv (w2.1.trans (wipe_length σ vs))
        refine ⟨ew, F2, ρ2, b, ρ3, s2, e4, fun F3 H3 p3 s3 => ?_⟩
        have q3 := q0.trans (p2.trans p3)
        have fin : ∀ (F4 : Hp) (ρ4 : Env) (H4 : Hp), Stp Fi (wipe σ vs) ρi Hi F4 σ2 ρ4 H4 → St X.K F4 H4 σ2 ρ4 → H4 D = some (.lst acc) ∧ F4 D = none ∧ ¬ Owns (wipe σ vs) (wipeE ρ4 vs) D ∧ Stp F1 σ ρ1 H1 F4 (wipe σ vs) (wipeE ρ4 vs) H4 ∧ St X.K F4 H4 (wipe σ vs) (wipeE ρ4 vs) := fun F4 ρ4 H4 q s4 => by
          obtain ⟨h1, h2⟩ := q.keep D _ hDi nD
          have h3 := stp_wipe (pi.trans q) hnv
          have h4 := st_wipe s4 vs
          rw [ew] at h3 h4
          refine ⟨h1, h2.trans fD, fun z => ?_, h3, h4⟩
          obtain ⟨j, f, dd, z1, z2⟩ := z
          obtain ⟨z3, z4⟩ := wipeE_cell z1
          rw [← ew, wipe_out' z4] at z2
          rcases q.fresh D ⟨j, f, dd, z3, z2⟩ with y | y
          · exact nD y
          · rw [hDi] at y
            cases y
        cases b with
        | true =>
          rw [if_pos rfl] at ei2
          obtain ⟨⟨y, ρ4⟩, e5, ei3⟩ := bind_some ei2
          obtain ⟨⟨r, ρ5⟩, e6, ei4⟩ := bind_some ei3
          cases ei4
          refine ⟨F3, ρ3, y, ρ4, s3, e5, fun u F4 H4 p4 s4 r4 => ?_⟩
          have q4 := q3.trans p4
          obtain ⟨h1, h2, h3, h4, h5⟩ := fin F4 ρ4 H4 q4 s4
          refine ⟨acc, h1, by rw [line_eq, da_len ra]; omega, F4, wipeE ρ4 vs, acc ++ [u], as ++ [y], r, stp_side h4 hD, st_side h5 h2 h3, e6, by rw [List.append_assoc]; exact er, ⟨h2, h3⟩, upd_same, da_app (dpAll_mono q4.ff _ _ ra) (.cons r4 .nil), by rw [List.length_append]; simpa using la⟩
        | false =>
          rw [if_neg Bool.false_ne_true] at ei2
          obtain ⟨h1, h2, h3, h4, h5⟩ := fin F3 ρ3 H3 q3 s3
          exact ⟨F3, wipeE ρ3 vs, acc, as, rr, h4, h5, ei2, er, ⟨h2, h3⟩, h1, dpAll_mono q3.ff _ _ ra, by omega⟩
      · rw [List.drop_of_length_le (by omega)] at ei
        cases ei
        obtain ⟨_, st⟩ := ok Fi Hi sff si.sub i
        refine .inl ⟨st (by omega), ?_⟩
        rw [List.append_nil] at er
        subst er
        obtain ⟨pb, sb⟩ := stp_back pi (by rw [si.len, wipe_length, s1.len]) hl.2
        exact k D Fi Hi (p1.trans pb) (st_back s1 si sff hl.2) ⟨fD, acc, as, rfl, hDi, ra⟩ (fun z => nD (sb D z)) (p1.none hD)
    · cases eg1
end
end Dn
set_option maxHeartbeats 2000000
/-! defs as functions on data; names that are looked at -/
namespace Dn
open PySem PySem.Spec PyProof.Rows L2

/-! ### defs -/
def vals (ds : List D) : Env := ds.map fun d => some (.val d)
def envV (N : Nat) (ds : List D) : Env := vals ds ++ List.replicate (N - ds.length) none
def endV : Fl × Env → Option D
  | (.ret d, _) => some d
  | (.nx, _) => some .none
  | _ => none
def runV (N : Nat) (g : Sd) (ds : List D) : Option D := (g (envV N ds)).bind endV
def envIO (N : Nat) (d : D) (ds : List D) : Env := some (.own true d) :: (vals ds ++ List.replicate (N - (ds.length + 1)) none)
def ownOf : Option (Option Cell) → Option D
  | some (some (.own true d)) => some d
  | _ => none
def endIO (p : Fl × Env) : Option (D × D) := (ownOf p.2[0]?).bind fun d => (endV p).bind fun r => some (r, d)
def runIO (N : Nat) (g : Sd) (d : D) (ds : List D) : Option (D × D) := (g (envIO N d ds)).bind endIO

theorem vals_get {ds : List D} {n i : Nat} {c : Cell} (h : (vals ds ++ List.replicate n none)[i]? = some (some c)) : ∃ d, ds[i]? = some d ∧ c = .val d := by
  by_cases hi : i < ds.length
  · rw [List.getElem?_append_left (by simpa [vals] using hi)] at h
    unfold vals at h
    rw [List.getElem?_map] at h
    cases q : ds[i]? with
    | none => rw [q] at h; cases h
    | some d =>
      rw [q] at h
      cases h
      exact ⟨d, rfl, rfl⟩
  · rw [List.getElem?_append_right (by simpa [vals] using Nat.le_of_not_lt hi)] at h
    have h2 := List.mem_of_getElem? h
    have := List.eq_of_mem_replicate h2
    cases this
theorem start_get {vs : List V} {n i : Nat} {v : V} (h : vs[i]? = some v) : (vs.map some ++ List.replicate n none)[i]? = some (some v) := by
  have hi := (List.getElem?_eq_some_iff.mp h).1
  rw [List.getElem?_append_left (by simpa using hi), List.getElem?_map, h]
  rfl
theorem st_vals {K : PySem.W.Frag} {F H : Hp} {N : List Str} {vs : List V} {ds : List D} (s : Same F H) (hd : RpAll K F vs ds) : St K F H (L2.start N vs) (envV N.length ds) where
  sub := s
  len := by simp [envV, L2.start, vals, da_len hd]
  cell := fun i c h => by
    obtain ⟨d, e, rfl⟩ := vals_get h
    obtain ⟨v, e1, r⟩ := da_at hd e
    exact ⟨v, start_get e1, r⟩
  dist := fun i j f g d e a h1 _ _ _ => by
    obtain ⟨d', _, z⟩ := vals_get h1
    cases z
theorem no_owns {σ : L2.St} {N : Nat} {ds : List D} {b : Addr} : ¬ Owns σ (envV N ds) b := fun z => by
  obtain ⟨i, f, d, h, _⟩ := z
  obtain ⟨d', _, z⟩ := vals_get h
  cases z
theorem stp_grow {K : PySem.W.Frag} {F F' H H' : Hp} {σ σ' : L2.St} {N : Nat} {ds : List D} {ρ' : Env} (p : Stp F σ (envV N ds) H F' σ' ρ' H') (s : St K F' H' σ' ρ') : Grow F H F' H' :=
  ⟨p.ff, fun b o h => (p.keep b o h no_owns).1, s.sub, fun b o h => (p.keep b o h no_owns).2⟩
section
variable {P : Program} {w : World} {K : PySem.W.Frag} {mg : Str → Option Value} {base : Heap}
theorem fn_V {x qual : Str} {st : Stmt} {f : Addr} {fd : FuncData} {N ps : List Str} {k : Nat} {g : Sd} (Fn : Fun K x qual st f fd) (S : FnScope N ps (defScope st))
    (hbody : ∀ (cdv : Value) (A : Around) (outer : List PySem.Env) (s : Shared) (H : Hp) (E : XK), Room k (A.deeper (envOfC qual (defScope st) s.heap.objs.size f cdv)) → DSs (cxOf CX0 P w K mg base N qual (defScope st) f cdv A outer s H E).nox (defBody st) g) :
    FnOk P w K mg base CX0 (k + 1) f fd ps (spV K ps.length (runV N.length g)) := by
  refine Fn.ok S (fun vs H Q E h => h.1) fun cdv A outer s H vs Q E hr h => ⟨_, hbody cdv A outer s H E hr, ?_⟩
  obtain ⟨_, F, ds, r, sf, hd, ef, k⟩ := h
  obtain ⟨⟨fl, ρ'⟩, e1, e2⟩ := bind_some ef
  refine ⟨F, envV N.length ds, fl, ρ', st_vals sf hd, e1, fun σ' F' H' p s' => ?_⟩
  have gr := stp_grow p s'
  cases fl with
  | nx =>
    cases e2
    exact k .non F' H' gr .non
  | ret d =>
    cases e2
    exact fun v rv => k v F' H' gr rv
  | rof d => cases e2
  | brk => cases e2
  | cnt => cases e2
def endF : Fl × Env → Option D
  | (.rof d, _) => some d
  | _ => none
def runF (N : Nat) (g : Sd) (ds : List D) : Option D := (g (envV N ds)).bind endF
theorem fn_F {x qual : Str} {st : Stmt} {f : Addr} {fd : FuncData} {N ps : List Str} {k : Nat} {g : Sd} (Fn : Fun K x qual st f fd) (S : FnScope N ps (defScope st))
    (hbody : ∀ (cdv : Value) (A : Around) (outer : List PySem.Env) (s : Shared) (H : Hp) (E : XK), Room k (A.deeper (envOfC qual (defScope st) s.heap.objs.size f cdv)) → DSs (cxOf CX0 P w K mg base N qual (defScope st) f cdv A outer s H E).nox (defBody st) g) :
    FnOk P w K mg base CX0 (k + 1) f fd ps (spF K ps.length (runF N.length g)) := by
  refine Fn.ok S (fun vs H Q E h => h.1) fun cdv A outer s H vs Q E hr h => ⟨_, hbody cdv A outer s H E hr, ?_⟩
  obtain ⟨_, F, ds, r, sf, hd, ef, k⟩ := h
  obtain ⟨⟨fl, ρ'⟩, e1, e2⟩ := bind_some ef
  refine ⟨F, envV N.length ds, fl, ρ', st_vals sf hd, e1, fun σ' F' H' p s' => ?_⟩
  have gr := stp_grow p s'
  cases fl with
  | rof d =>
    cases e2
    exact fun a o n => k a F' H' gr o n
  | nx => cases e2
  | ret d => cases e2
  | brk => cases e2
  | cnt => cases e2
theorem io_get {d : D} {ds : List D} {n i : Nat} {c : Cell} (h : ((some (Cell.own true d) :: (vals ds ++ List.replicate n none)) : Env)[i]? = some (some c)) : (i = 0 ∧ c = .own true d) ∨ ∃ j e, i = j + 1 ∧ ds[j]? = some e ∧ c = .val e := by
  cases i with
  | zero =>
    cases h
    exact .inl ⟨rfl, rfl⟩
  | succ j =>
    rw [List.getElem?_cons_succ] at h
    obtain ⟨e, h1, h2⟩ := vals_get h
    exact .inr ⟨j, e, rfl, h1, h2⟩
theorem fn_IO {x qual : Str} {st : Stmt} {f : Addr} {fd : FuncData} {N ps : List Str} {k : Nat} {g : Sd} (Fn : Fun K x qual st f fd) (S : FnScope N ps (defScope st)) (hN : 0 < N.length)
    (hbody : ∀ (cdv : Value) (A : Around) (outer : List PySem.Env) (s : Shared) (H : Hp) (E : XK), Room k (A.deeper (envOfC qual (defScope st) s.heap.objs.size f cdv)) → DSs (cxOf CX0 P w K mg base N qual (defScope st) f cdv A outer s H E).nox (defBody st) g) :
    FnOk P w K mg base CX0 (k + 1) f fd ps (spIO K ps.length (runIO N.length g)) := by
  refine Fn.ok S (fun vs H Q E h => h.1) fun cdv A outer s H vs Q E hr h => ⟨_, hbody cdv A outer s H E hr, ?_⟩
  obtain ⟨_, F, a, ws, d, ds, r, d', rfl, sf, o, hd, ef, k⟩ := h
  obtain ⟨⟨fl, ρ'⟩, e1, e2⟩ := bind_some ef
  have hs0 : (L2.start N (.ref a :: ws))[0]? = some (some (.ref a)) := rfl
  have hst : St K F H (L2.start N (.ref a :: ws)) (envIO N.length d ds) := by
    refine ⟨sf, by simp [envIO, L2.start, vals, da_len hd], fun i c h => ?_, fun i j f g d e b h1 h2 _ _ => ?_⟩
    · rcases io_get h with ⟨rfl, rfl⟩ | ⟨j, e, rfl, h1, rfl⟩
      · exact ⟨a, hs0, o⟩
      · obtain ⟨v, e3, rv⟩ := da_at hd h1
        exact ⟨v, start_get (vs := .ref a :: ws) (i := j + 1) e3, rv⟩
    · rcases io_get h1 with ⟨rfl, _⟩ | ⟨_, _, _, _, z⟩
      · rcases io_get h2 with ⟨rfl, _⟩ | ⟨_, _, _, _, z⟩
        · rfl
        · cases z
      · cases z
  refine ⟨F, envIO N.length d ds, fl, ρ', hst, e1, fun σ' F' H' p s' => ?_⟩
  have own1 : ∀ b, Owns (L2.start N (.ref a :: ws)) (envIO N.length d ds) b → b = a := fun b z => by
    obtain ⟨i, f, e, h1, h2⟩ := z
    rcases io_get h1 with ⟨rfl, _⟩ | ⟨_, _, _, _, z⟩
    · rw [hs0] at h2
      cases h2
      rfl
    · cases z
  obtain ⟨f1, d1, f2⟩ := p.fix 0 d rfl
  have f3 : ρ'[0]? = some (some (.own true d1)) := f2
  have o' : OwnAt K F' H' a d1 := by
    obtain ⟨b, z1, z2⟩ := s'.cell 0 _ f3
    rw [f1, hs0] at z1
    cases z1
    exact z2
  have kp : ∀ b u, H b = some u → b ≠ a → H' b = some u ∧ F' b = F b := fun b u h n => p.keep b u h fun z => n (own1 b z)
  have e3 : (endV (fl, ρ')).bind (fun r => some (r, d1)) = some (r, d') := by
    have e4 : endIO (fl, ρ') = some (r, d') := e2
    unfold endIO at e4
    rw [show (fl, ρ').2[0]? = some (some (.own true d1)) from f3] at e4
    exact e4
  cases fl with
  | nx =>
    cases e3
    exact k .non F' H' p.ff s'.sub kp o' .non
  | ret d =>
    cases e3
    exact fun v rv => k v F' H' p.ff s'.sub kp o' rv
  | rof d => cases e3
  | brk => cases e3
  | cnt => cases e3
/-- the law -/
def spLaw (K : PySem.W.Frag) : Sp := fun vs H Q _ => ∃ (a : Addr) (ns : List Int), vs = [.ref a] ∧ SqL K H a (ns.map V.int) ∧ ns.length ≤ 63 ∧ ∀ H', Q (.bl true) H'
theorem fn_law {k : Nat} {f : Addr} {fd : FuncData} {ps : List Str} {g : List D → Option D} (G : FnOk P w K mg base CX0 k f fd ps (spV K 1 g)) (hg : ∀ ns : List Int, ns.length ≤ 63 → g [.list (ns.map PyData.int)] = some (.bool true)) : FnOk P w K mg base CX0 k f fd ps (spLaw K) :=
  G.imp fun vs H Q E h => by
    obtain ⟨a, ns, rfl, hs, hl, q⟩ := h
    exact ⟨rfl, H, _, _, Same.refl H, .cons (.lst hs (da_ints ns)) .nil, hg ns hl, fun v F' H' _ rv => by
      cases rv
      exact q H'⟩
end

/-! ### names that are looked at: a list of one's own stays one's own -/
def peek (ρ : Env) (i : Nat) : Option D := match ρ[i]? with
  | some (some (.val d)) => some d
  | some (some (.own _ d)) => some d
  | _ => none
def flatD : D → Bool
  | .none => true
  | .bool _ => true
  | .int _ => true
  | .str _ => true
  | _ => false
def gPk (i : Nat) (f : List D → Option D) : Md D := fun ρ => (peek ρ i).bind fun d => (f [d]).bind fun r => if flatD r = true then some (r, ρ) else none
theorem flat_dp {K : PySem.W.Frag} {F F' : Hp} {v : V} {d : D} (h : Rp K F v d) (fl : flatD d = true) : Rp K F' v d := by
  cases h with
  | dic _ _ => cases fl
  | non => exact .non
  | bl b => exact .bl b
  | int i => exact .int i
  | str x => exact .str x
  | lst _ _ => cases fl
  | tup _ _ => cases fl
theorem peek_dp {K : PySem.W.Frag} {F H : Hp} {σ : L2.St} {ρ : Env} {i : Nat} {d : D} (s : St K F H σ ρ) (h : peek ρ i = some d) : ∃ v, σ[i]? = some (some v) ∧ Rp K H v d := by
  unfold peek at h
  split at h
  · rename_i d' e
    cases h
    obtain ⟨v, e1, r⟩ := st_val s e
    exact ⟨v, e1, dp_mono s.sub _ _ r⟩
  · rename_i f d' e
    cases h
    obtain ⟨a, e1, o, _⟩ := st_owned s e
    obtain ⟨f0, xs, ds, rfl, hx, r⟩ := o
    exact ⟨.ref a, e1, .lst (SqL.of hx) (dpAll_mono s.sub _ _ r)⟩
  · cases h
section
variable {X : Cx} {e a : Expr} {pos p py : Pos} {x y : Str}
theorem de_pkB (i : Nat) {id : String} {f : List D → Option D} (hc : CallR X (.builtin id) (rPn X.K f)) (hg : Gl X x) (hm : X.mg x = none) (hv : bootBuiltins x = some (.builtin id)) (hN : X.N[i]? = some y) (hy : Vis X.env.scope y) (hn : x ≠ "__name__" := by decide) (hdb : (x == ("__debug__" : Str)) = false := by decide)
    (hdy : (y == ("__debug__" : Str)) = false := by decide) (hcd : (y == ("__classdict__" : Str)) = false := by decide) (he : starEach [.Name y py] X.env = (false, eval (.Name y py) X.env) :: starEach [] X.env := by rfl) (hpl : (backTo pos (starEach [] X.env)).any (·.1) = false := by rfl) : DE X (.Call (.Name x p) [.Name y py] [] pos) (gPk i f) :=
  pe_imp (pe_callB hc hg hm hv (pa_cons (pe_var hN hy hdy hcd) pa_nil he) hn hdb he hpl) fun σ H Q q => by
    obtain ⟨F, ρ, d, ρ', s, eg, k⟩ := q
    obtain ⟨d1, e1, eg1⟩ := bind_some eg
    obtain ⟨r, e2, eg2⟩ := bind_some eg1
    split at eg2
    · rename_i fl
      cases eg2
      obtain ⟨v, ev, rv⟩ := peek_dp s e1
      refine ⟨v, ev, H, [d1], _, Same.refl H, .cons rv .nil, e2, fun u F' H' gr ru => ?_⟩
      have gr2 : Grow F H F H' := ⟨Same.refl F, gr.hh, s.sub.trans gr.hh, fun _ _ _ => rfl⟩
      exact k u F H' (gr2.stp σ ρ) (s.grow gr2) (flat_dp ru fl)
    · cases eg2
def gIxB (i : Nat) (gi : Md D) : Md D := fun ρ => match ρ[i]? with
  | some (some (.val d)) => (gi ρ).bind fun p => (ixD d p.1).bind fun r => some (r, p.2)
  | some (some (.own _ _)) => (gi ρ).bind fun p => match p.2[i]? with
    | some (some (.own _ d)) => (ixD d p.1).bind fun r => some (r, p.2)
    | _ => none
  | _ => none
theorem de_ixB (i : Nat) {gi : Md D} (hN : X.N[i]? = some y) (hy : Vis X.env.scope y) (hi : DE X a gi) (hs : PlainIx a) (hdy : (y == ("__debug__" : Str)) = false := by decide) (hcd : (y == ("__classdict__" : Str)) = false := by decide) : DE X (.Subscript (.Name y py) a pos) (gIxB i gi) :=
  pe_imp (pe_ix (ix_list.or ix_D) (pe_var hN hy hdy hcd) hi hs) fun σ H Q q => by
    obtain ⟨F, ρ, d, ρ', s, eg, k⟩ := q
    unfold gIxB at eg
    split at eg
    · rename_i d0 h0
      obtain ⟨⟨di, ρ1⟩, e1, eg1⟩ := bind_some eg
      obtain ⟨r, e2, eg2⟩ := bind_some eg1
      cases eg2
      obtain ⟨v, ev, rv⟩ := st_val s h0
      exact ⟨v, ev, F, ρ, di, _, s, e1, fun u F1 H1 p1 s1 r1 => .inr ⟨F1, d0, di, _, s1.sub, dp_mono p1.ff _ _ rv, r1, e2, fun z F2 H2 gr rz => k z F2 H2 (p1.trans (gr.stp σ _)) (s1.grow gr) rz⟩⟩
    · rename_i b0 d0 h0
      obtain ⟨a0, ea, o0, _⟩ := st_owned s h0
      obtain ⟨⟨di, ρ1⟩, e1, eg1⟩ := bind_some eg
      simp only at eg1
      split at eg1
      · rename_i b1 d1 h1
        obtain ⟨r, e2, eg2⟩ := bind_some eg1
        cases eg2
        refine ⟨.ref a0, ea, F, ρ, di, _, s, e1, fun u F1 H1 p1 s1 r1 => .inl ?_⟩
        obtain ⟨a1, ea1, o1, _⟩ := st_owned s1 h1
        rw [ea] at ea1
        cases ea1
        obtain ⟨f1, xs, ds, rfl, hx, rx⟩ := o1
        cases di with
        | int z =>
          obtain ⟨w, ew, rw'⟩ := da_ix rx e2
          cases r1
          exact ⟨a0, xs, z, w, rfl, rfl, SqL.of hx, ixA_at ew, k w F1 H1 p1 s1 rw'⟩
        | none => cases e2
        | bool _ => cases e2
        | str _ => cases e2
        | list _ => cases e2
        | tuple _ => cases e2
        | dict _ => cases e2
      · cases eg1
    · cases eg
/-! in, not in -/
def inT (d : D) : D → Option Bool
  | .list ds => if SeqAt.shaped d = true ∧ SeqAt.shaped (.list ds) = true then some (ds.any fun z => PyData.eqv z d) else none
  | .tuple ds => if flatD d = true ∧ ds.all flatD = true then some (ds.any fun z => PyData.eqv z d) else none
  | _ => none
def inD (d e : D) : Option D := (inT d e).bind fun b => some (.bool b)
def ninD (d e : D) : Option D := (inT d e).bind fun b => some (.bool !b)
theorem flat_V {K : PySem.W.Frag} {H : Hp} {v : V} {d : D} (h : Rp K H v d) (fl : flatD d = true) : flatV v = true := by
  cases h with
  | non => rfl
  | bl b => rfl
  | int i => rfl
  | str x => rfl
  | lst _ _ => cases fl
  | tup _ _ => cases fl
  | dic _ _ => cases fl
theorem eq_V {K : PySem.W.Frag} {H : Hp} {v w : V} {d e : D} (h : Rp K H v d) (h2 : Rp K H w e) (f1 : flatD d = true) (f2 : flatD e = true) : eqV v w = PyData.eqv d e := by
  cases h <;> (try cases f1) <;> cases h2 <;> (try cases f2) <;> simp [eqV, PyData.eqv]
theorem in_V {K : PySem.W.Frag} {H : Hp} {v : V} {d : D} (h : Rp K H v d) (f1 : flatD d = true) : ∀ {ds : List D} {vs : List V}, RpAll K H vs ds → ds.all flatD = true → vs.all flatV = true ∧ inV v vs = ds.any fun z => PyData.eqv z d
  | _, _, .nil, _ => ⟨rfl, rfl⟩
  | _, _, .cons r rs, f2 => by
    rw [List.all_cons, Bool.and_eq_true] at f2
    obtain ⟨h1, h2⟩ := in_V h f1 rs f2.2
    refine ⟨by rw [List.all_cons, flat_V r f2.1, h1]; rfl, ?_⟩
    unfold inV at h2 ⊢
    rw [List.any_cons, List.any_cons, h2, eq_V r h f2.1 f1]
theorem in_any (hu : X.A.units + 65 < cLine) {v w : V} {H : Hp} {Q : VK} {d e : D} {b : Bool} (hd : Rp X.K H v d) (he : Rp X.K H w e) (h : inT d e = some b) (q : Q (.bl b) H) : rInD X.K v w H Q ∨ rIn X.K false v w H Q := by
  unfold inT at h
  split at h
  · split at h
    · rename_i hs
      cases h
      exact .inl ⟨d, _, rp_dp hd (SeqAt.canLay_of_shaped hs.1), rp_dp he (SeqAt.canLay_of_shaped hs.2), hs.1, hs.2, q⟩
    · cases h
  · split at h
    · rename_i hs
      cases h
      cases he with
      | @tup a vs _ h1 d1 =>
        obtain ⟨z1, z2⟩ := in_V hd hs.1 d1 hs.2
        exact .inr ⟨a, vs, rfl, .inr h1, flat_V hd hs.1, z1, by rw [z2]; exact q⟩
    · cases h
  · cases h
theorem nin_any (hu : X.A.units + 65 < cLine) {v w : V} {H : Hp} {Q : VK} {d e : D} {b : Bool} (hd : Rp X.K H v d) (he : Rp X.K H w e) (h : inT d e = some b) (q : Q (.bl !b) H) : rNotInD X.K v w H Q ∨ rIn X.K true v w H Q := by
  unfold inT at h
  split at h
  · split at h
    · rename_i hs
      cases h
      exact .inl ⟨d, _, rp_dp hd (SeqAt.canLay_of_shaped hs.1), rp_dp he (SeqAt.canLay_of_shaped hs.2), hs.1, hs.2, q⟩
    · cases h
  · split at h
    · rename_i hs
      cases h
      cases he with
      | @tup a vs _ h1 d1 =>
        obtain ⟨z1, z2⟩ := in_V hd hs.1 d1 hs.2
        exact .inr ⟨a, vs, rfl, .inr h1, flat_V hd hs.1, z1, by rw [z2]; exact q⟩
    · cases h
  · cases h
theorem op_inD' (hu : X.A.units + 65 < cLine) : OpR X (compareOp .In) (rP2 X.K inD) := by
  intro pins s σ H v w t u Q I rx ry h
  obtain ⟨F, d, e, r, sf, hd, he, ef, k⟩ := h
  obtain ⟨b, e1, e2⟩ := bind_some ef
  cases e2
  exact ((op_inD hu).or op_in_seq) pins s σ H v w t u Q I rx ry (in_any hu (dp_mono sf _ _ hd) (dp_mono sf _ _ he) e1 (k _ F H (Grow.refl sf) (.bl _)))
theorem op_ninD' (hu : X.A.units + 65 < cLine) : OpR X (compareOp .NotIn) (rP2 X.K ninD) := by
  intro pins s σ H v w t u Q I rx ry h
  obtain ⟨F, d, e, r, sf, hd, he, ef, k⟩ := h
  obtain ⟨b, e1, e2⟩ := bind_some ef
  cases e2
  exact ((op_notInD hu).or op_notIn_seq) pins s σ H v w t u Q I rx ry (nin_any hu (dp_mono sf _ _ hd) (dp_mono sf _ _ he) e1 (k _ F H (Grow.refl sf) (.bl _)))
def gInB (neg : Bool) (i : Nat) (g : Md D) : Md D := fun ρ => (g ρ).bind fun p => (peek p.2 i).bind fun e => (inT p.1 e).bind fun b => some (.bool (if neg = true then !b else b), p.2)
theorem de_inB (i : Nat) {g : Md D} (hu : X.A.units + 65 < cLine) (hN : X.N[i]? = some y) (hy : Vis X.env.scope y) (ha : DE X a g) (hdy : (y == ("__debug__" : Str)) = false := by decide) (hcd : (y == ("__classdict__" : Str)) = false := by decide) (hm : behindInMarks .In (.Name y py) = false := by rfl) : DE X (.Compare a [.In] [.Name y py] pos) (gInB false i g) :=
  pe_imp (pe_cmpR ((op_inD hu).or op_in_seq) ha (pe_var hN hy hdy hcd) hm) fun σ H Q q => by
    obtain ⟨F, ρ, d, ρ', s, eg, k⟩ := q
    obtain ⟨⟨d1, ρ1⟩, e1, eg1⟩ := bind_some eg
    obtain ⟨e, e2, eg2⟩ := bind_some eg1
    obtain ⟨b, e3, eg3⟩ := bind_some eg2
    cases eg3
    refine ⟨F, ρ, d1, _, s, e1, fun v F1 H1 p1 s1 r1 => ?_⟩
    obtain ⟨w, ew, rw'⟩ := peek_dp s1 e2
    exact ⟨w, ew, in_any hu (dp_mono s1.sub _ _ r1) rw' e3 (k _ F1 H1 p1 s1 (.bl _))⟩
theorem de_ninB (i : Nat) {g : Md D} (hu : X.A.units + 65 < cLine) (hN : X.N[i]? = some y) (hy : Vis X.env.scope y) (ha : DE X a g) (hdy : (y == ("__debug__" : Str)) = false := by decide) (hcd : (y == ("__classdict__" : Str)) = false := by decide) (hm : behindInMarks .NotIn (.Name y py) = false := by rfl) : DE X (.Compare a [.NotIn] [.Name y py] pos) (gInB true i g) :=
  pe_imp (pe_cmpR ((op_notInD hu).or op_notIn_seq) ha (pe_var hN hy hdy hcd) hm) fun σ H Q q => by
    obtain ⟨F, ρ, d, ρ', s, eg, k⟩ := q
    obtain ⟨⟨d1, ρ1⟩, e1, eg1⟩ := bind_some eg
    obtain ⟨e, e2, eg2⟩ := bind_some eg1
    obtain ⟨b, e3, eg3⟩ := bind_some eg2
    cases eg3
    refine ⟨F, ρ, d1, _, s, e1, fun v F1 H1 p1 s1 r1 => ?_⟩
    obtain ⟨w, ew, rw'⟩ := peek_dp s1 e2
    exact ⟨w, ew, nin_any hu (dp_mono s1.sub _ _ r1) rw' e3 (k _ F1 H1 p1 s1 (.bl _))⟩
/-! truth -/
def truT : D → Option Bool
  | .none => some false
  | .bool b => some b
  | .int i => some (i != 0)
  | .str x => if x.length ≤ 16777216 then some ((x.length : Int) != 0) else none
  | .list ds => some (!ds.isEmpty)
  | .tuple ds => some (!ds.isEmpty)
  | _ => none
theorem da_emp {K : PySem.W.Frag} {H : Hp} {vs : List V} {ds : List D} (h : RpAll K H vs ds) : vs.isEmpty = ds.isEmpty := by
  cases h <;> rfl
theorem tru_dp {K : PySem.W.Frag} {H : Hp} {v : V} {d : D} {b : Bool} (h : Rp K H v d) (e : truT d = some b) : TruV K v H b := by
  cases h with
  | non =>
    cases e
    exact rfl
  | bl b =>
    cases e
    exact rfl
  | int i =>
    cases e
    exact rfl
  | str x =>
    have e1 : (if x.length ≤ 16777216 then some ((x.length : Int) != 0) else none) = some b := e
    by_cases hl : x.length ≤ 16777216
    · rw [if_pos hl] at e1
      cases e1
      exact ⟨by rw [line_eq]; exact hl, rfl⟩
    · rw [if_neg hl] at e1
      cases e1
  | lst h1 d1 =>
    cases e
    exact .inl ⟨_, h1, by rw [da_emp d1]⟩
  | tup h1 d1 =>
    cases e
    exact .inr (.inl ⟨_, h1, by rw [da_emp d1]⟩)
  | dic _ _ => cases e
def gTru (g : Md D) : Md Bool := fun ρ => (g ρ).bind fun p => (truT p.1).bind fun b => some (b, p.2)
def gTruB (i : Nat) : Md Bool := fun ρ => (peek ρ i).bind fun d => (truT d).bind fun b => some (b, ρ)
theorem dt_tru {g : Md D} (ha : DE X a g) (he : ∀ whole, isTrue a X.env whole = (do let v ← whole; standAt a.pos; holding [v] (truthy v)) := by intro _; rfl) : DT X a (gTru g) :=
  pt_imp (pt_truth ha he) fun σ H Q q => by
    obtain ⟨F, ρ, d, ρ', s, eg, k⟩ := q
    obtain ⟨⟨d1, ρ1⟩, e1, eg1⟩ := bind_some eg
    obtain ⟨b, e2, eg2⟩ := bind_some eg1
    cases eg2
    exact ⟨F, ρ, d1, _, s, e1, fun v F1 H1 p1 s1 r1 => ⟨_, tru_dp (dp_mono s1.sub _ _ r1) e2, k F1 H1 p1 s1⟩⟩
theorem dt_truB (i : Nat) (hN : X.N[i]? = some y) (hy : Vis X.env.scope y) (hdy : (y == ("__debug__" : Str)) = false := by decide) (hcd : (y == ("__classdict__" : Str)) = false := by decide) (he : ∀ whole, isTrue (.Name y py) X.env whole = (do let v ← whole; standAt (Expr.Name y py).pos; holding [v] (truthy v)) := by intro _; rfl) : DT X (.Name y py) (gTruB i) :=
  pt_imp (pt_truth (pe_var hN hy hdy hcd) he) fun σ H Q q => by
    obtain ⟨F, ρ, d, ρ', s, eg, k⟩ := q
    obtain ⟨d1, e1, eg1⟩ := bind_some eg
    obtain ⟨b, e2, eg2⟩ := bind_some eg1
    cases eg2
    obtain ⟨v, ev, rv⟩ := peek_dp s e1
    exact ⟨v, ev, _, tru_dp rv e2, k F H Stp.refl s⟩
/-! y = [..] where the comprehension runs in the frame -/
theorem dts_nil : PTs X [] (tDT X.K gTrue) := ⟨fun pins s σ H Q I q => pts_nil.run pins s σ H Q I (by
  obtain ⟨F, ρ, d, ρ', st, eg, k⟩ := q
  cases eg
  exact k F H Stp.refl st)⟩
theorem dts_one {c : Expr} {g : Md Bool} (h : DT X c g) : PTs X [c] (tDT X.K g) := pts_one h
theorem df_lc {e : Expr} {vs is : List Nat} {gi : Md (List D)} {gt : D → Env → Option Env} {gc : Md Bool} {ge : Md D} (h : PE X e (tLc (tDI X.K gi) (tDG X.K is gt) (tDT X.K gc) (tD X.K ge) vs)) (hv : ∀ j ∈ is, j ∈ vs := by decide) : DF X e (gLc vs gi gt gc ge) := pe_imp h fun _ _ _ q => lc_q hv q
theorem ds_lcO {st : Stmt} {i : Nat} {vs is : List Nat} {gi : Md (List D)} {gt : D → Env → Option Env} {gc : Md Bool} {ge : Md D} (h : PS X st (fun E σ H => tLc (tDI X.K gi) (tDG X.K is gt) (tDT X.K gc) (tD X.K ge) vs σ H fun v H1 => E.nx (σ.set i (some v)) H1)) (hv : ∀ j ∈ is, j ∈ vs := by decide) : DS X st (sOwn i (gLc vs gi gt gc ge)) :=
  ps_imp h fun E σ H q => by
    obtain ⟨F, ρ, f, ρ', s, eg, k⟩ := q
    obtain ⟨⟨d, ρ1⟩, e1, eg1⟩ := bind_some eg
    obtain ⟨r, e2, eg2⟩ := bind_some eg1
    cases eg2
    refine lc_q hv ⟨F, ρ, d, ρ1, s, e1, fun a F1 H1 p1 s1 o no hn => k _ F1 H1 (stp_set p1 e2 fun _ _ b _ z => ?_) (st_set s1 e2 ⟨a, rfl, o⟩ fun f _ b z1 z => ?_)⟩
    · cases z
      exact hn
    · cases z
      cases z1
      exact ⟨rfl, no⟩
end
end Dn
set_option maxHeartbeats 2000000
/-! short words for the printer -/
namespace Dn
open PySem PySem.Spec PyProof.Rows L2
section
variable {X : Cx} {e a : Expr} {pos p py : Pos} {x y : Str}
theorem dv (i : Nat) {x : Str} (hN : X.N[i]? = some x := by rfl) (hv : Vis X.env.scope x := by first | exact Or.inl rfl | exact Or.inr (Or.inl rfl) | exact Or.inr (Or.inr rfl)) (hd : (x == ("__debug__" : Str)) = false := by decide) (hcd : (x == ("__classdict__" : Str)) = false := by decide) : DE X (.Name x pos) (gVar i) := de_var i hN hv hd hcd
theorem dz (i : Nat) {x : Str} (hN : X.N[i]? = some x := by rfl) (hv : Vis X.env.scope x := by first | exact Or.inl rfl | exact Or.inr (Or.inl rfl) | exact Or.inr (Or.inr rfl)) (hd : (x == ("__debug__" : Str)) = false := by decide) (hcd : (x == ("__classdict__" : Str)) = false := by decide) : DE X (.Name x pos) (gFrz i) := de_frz i hN hv hd hcd
theorem in65 {k : Nat} {A : Around} (hr : Room k A) : A.units + 65 < cLine := by
  have := hr.un
  omega
theorem db_ix (i : Nat) {gi : Md D} (hi : DE X a gi) (hN : X.N[i]? = some y := by rfl) (hy : Vis X.env.scope y := by first | exact Or.inl rfl | exact Or.inr (Or.inl rfl) | exact Or.inr (Or.inr rfl)) (hs : PlainIx a := by intro _ _; rfl) (hdy : (y == ("__debug__" : Str)) = false := by decide) (hcd : (y == ("__classdict__" : Str)) = false := by decide) : DE X (.Subscript (.Name y py) a pos) (gIxB i gi) := de_ixB i hN hy hi hs hdy hcd
theorem db_tru (i : Nat) (hN : X.N[i]? = some y := by rfl) (hy : Vis X.env.scope y := by first | exact Or.inl rfl | exact Or.inr (Or.inl rfl) | exact Or.inr (Or.inr rfl)) (hdy : (y == ("__debug__" : Str)) = false := by decide) (hcd : (y == ("__classdict__" : Str)) = false := by decide) (he : ∀ whole, isTrue (.Name y py) X.env whole = (do let v ← whole; standAt (Expr.Name y py).pos; holding [v] (truthy v)) := by intro _; rfl) : DT X (.Name y py) (gTruB i) := dt_truB i hN hy hdy hcd he
theorem db_in (i : Nat) {g : Md D} (hu : X.A.units + 65 < cLine) (ha : DE X a g) (hN : X.N[i]? = some y := by rfl) (hy : Vis X.env.scope y := by first | exact Or.inl rfl | exact Or.inr (Or.inl rfl) | exact Or.inr (Or.inr rfl)) (hdy : (y == ("__debug__" : Str)) = false := by decide) (hcd : (y == ("__classdict__" : Str)) = false := by decide) (hm : behindInMarks .In (.Name y py) = false := by rfl) : DE X (.Compare a [.In] [.Name y py] pos) (gInB false i g) := de_inB i hu hN hy ha hdy hcd hm
theorem db_nin (i : Nat) {g : Md D} (hu : X.A.units + 65 < cLine) (ha : DE X a g) (hN : X.N[i]? = some y := by rfl) (hy : Vis X.env.scope y := by first | exact Or.inl rfl | exact Or.inr (Or.inl rfl) | exact Or.inr (Or.inr rfl)) (hdy : (y == ("__debug__" : Str)) = false := by decide) (hcd : (y == ("__classdict__" : Str)) = false := by decide) (hm : behindInMarks .NotIn (.Name y py) = false := by rfl) : DE X (.Compare a [.NotIn] [.Name y py] pos) (gInB true i g) := de_ninB i hu hN hy ha hdy hcd hm
theorem db_call (i : Nat) {id : String} {f : List D → Option D} (hc : CallR X (.builtin id) (rPn X.K f)) (hg : Gl X x) (hm : X.mg x = none) (hv : bootBuiltins x = some (.builtin id)) (hN : X.N[i]? = some y := by rfl) (hy : Vis X.env.scope y := by first | exact Or.inl rfl | exact Or.inr (Or.inl rfl) | exact Or.inr (Or.inr rfl)) (hn : x ≠ "__name__" := by decide) (hdb : (x == ("__debug__" : Str)) = false := by decide)
    (hdy : (y == ("__debug__" : Str)) = false := by decide) (hcd : (y == ("__classdict__" : Str)) = false := by decide) (he : starEach [.Name y py] X.env = (false, eval (.Name y py) X.env) :: starEach [] X.env := by rfl) (hpl : (backTo pos (starEach [] X.env)).any (·.1) = false := by rfl) : DE X (.Call (.Name x p) [.Name y py] [] pos) (gPk i f) := de_pkB i hc hg hm hv hN hy hn hdb hdy hcd he hpl
theorem db_io (i : Nat) {k n : Nat} {f : Addr} {fd : FuncData} {ps : List Str} {es : List Expr} {g : D → List D → Option (D × D)} {gs : Md (List D)} (G : FnOk X.prog X.w X.K X.mg X.base CX0 k f fd ps (spIO X.K (n + 1) g)) (hr : Room k X.A) (hg : Gl X x) (hm : X.mg x = some (.ref f)) (hk : PySem.W.keepIn X.K (.ref f) = true) (hb : Binds X.K fd ps [])
    (ha : DA X es gs) (hlen : ∀ ρ ds ρ', gs ρ = some (ds, ρ') → ds.length = n) (hN : X.N[i]? = some y := by rfl) (hv : Vis X.env.scope y := by first | exact Or.inl rfl | exact Or.inr (Or.inl rfl) | exact Or.inr (Or.inr rfl))
    (hdb : (x == ("__debug__" : Str)) = false := by decide) (hdy : (y == ("__debug__" : Str)) = false := by decide) (hcd : (y == ("__classdict__" : Str)) = false := by decide) (he : starEach (.Name y py :: es) X.env = (false, eval (.Name y py) X.env) :: starEach es X.env := by rfl) (hpl : (backTo pos (starEach es X.env)).any (·.1) = false := by rfl) : DE X (.Call (.Name x p) (.Name y py :: es) [] pos) (gCallIO i g gs) := de_callIO i G hr hg hm hk hb hN hv ha hlen hdb hdy hcd he hpl
theorem db_setIx (i : Nat) {tpos : Pos} {gv gi : Md D} (he : DE X e gv) (hi : DE X a gi) (hN : X.N[i]? = some y := by rfl) (hv : Vis X.env.scope y := by first | exact Or.inl rfl | exact Or.inr (Or.inl rfl) | exact Or.inr (Or.inr rfl)) (hdy : (y == ("__debug__" : Str)) = false := by decide) (hcd : (y == ("__classdict__" : Str)) = false := by decide)
    (ha : ∀ v, assign (.Subscript (.Name y py) a tpos) X.env v = (do let ov ← holding [v] (eval (.Name y py) X.env); let iv ← holding [v, ov] (eval a X.env); standAt tpos; holding [v, ov, iv] (setItem ov iv v); release [v, ov, iv] []) := by intro _; rfl)
    (hs : swapsWithSole [.Subscript (.Name y py) a tpos] e pos.line X.env = pure false := by rfl) (hw : swappedStores [.Subscript (.Name y py) a tpos] e X.env = pure none := by rfl) : DS X (.Assign [.Subscript (.Name y py) a tpos] e pos) (sSetIx i gv gi) := ds_setIx i hN hv he hi hdy hcd ha hs hw
end
theorem bb_len : bootBuiltins "len" = some (.builtin "len") := by decide +kernel
theorem bb_abs : bootBuiltins "abs" = some (.builtin "abs") := by decide +kernel
theorem bb_max : bootBuiltins "max" = some (.builtin "max") := by decide +kernel
theorem bb_min : bootBuiltins "min" = some (.builtin "min") := by decide +kernel
theorem bb_ord : bootBuiltins "ord" = some (.builtin "ord") := by decide +kernel
theorem bt_int : bootBuiltins "int" = some (.type "int") := by decide +kernel
theorem bt_bool : bootBuiltins "bool" = some (.type "bool") := by decide +kernel
theorem bt_str : bootBuiltins "str" = some (.type "str") := by decide +kernel
theorem bt_list : bootBuiltins "list" = some (.type "list") := by decide +kernel
theorem bt_tuple : bootBuiltins "tuple" = some (.type "tuple") := by decide +kernel
end Dn
set_option maxHeartbeats 2000000
/-! names of the module, enumerate, texts multiplied, dicts shown -/
namespace Dn
open PySem PySem.Spec PyProof.Rows L2
section
variable {X : Cx} {tg e a b : Expr} {pos p py : Pos} {x y : Str}
theorem de_glob {n : Int} (hg : Gl X x) (h : ∃ t, X.mg x = some (.int n t)) (hd : (x == ("__debug__" : Str)) = false := by decide) : DE X (.Name x pos) (gC (.int n)) := by
  obtain ⟨t, ht⟩ := h
  exact de_const (t := tC .non) (v := .int n) (pe_glob hg ht ⟨t, rfl⟩ hd) fun _ => .int n

/-! ### a text so many times -/
def mulT : D → D → Option D
  | .str x, .int n => if 0 ≤ n ∧ n ≤ 1000 ∧ x.length ≤ 1000 then some (.str (Txt.mul x n)) else none
  | _, _ => none
theorem op_mulT : OpR X (binaryOp .Mult) (rP2 X.K mulT) := by
  intro pins s σ H x y v u Q I rx ry h
  obtain ⟨F, d, e, r, sf, hd, he, ef, k⟩ := h
  unfold mulT at ef
  split at ef
  · split at ef
    · rename_i z n hl
      cases ef
      cases hd
      cases he
      obtain ⟨t, rfl⟩ := rx
      obtain ⟨t', rfl⟩ := ry
      obtain ⟨h0, h1, h2⟩ := hl
      refine SB.mul ⟨?_, fun h3 h4 h5 => ?_, fun h3 h4 => ?_⟩ fun t1 k1 => ⟨.str (Txt.mul z n), H, I.tok _, ⟨_, rfl⟩, k _ F H (Grow.refl sf) (.str _)⟩
      · rw [decide_eq_false (by omega), decide_eq_false (by omega)]
        rfl
      · have h6 : (1000 : Int) ≤ (2 ^ 63 - 1) / n := (Int.le_ediv_iff_mul_le (by omega)).mpr (by omega)
        omega
      · have h6 : z.length * n.toNat ≤ 1000 * 1000 := Nat.mul_le_mul h2 (by omega)
        refine decide_eq_false ?_
        rw [show sizeLine = 16777216 by decide]
        omega
    · cases ef
  · cases ef

/-! ### enumerate -/
def ItU (K : PySem.W.Frag) (a : Addr) : It :=
  ⟨fun i H => ∃ (xs : List V) (x : V), SqT K H a xs ∧ xs[i]? = some x, fun i H v H' => ∃ T x, v = .ref T ∧ H T = none ∧ H' = upd H T (.tup [.int (i : Nat), x]) ∧ ∀ xs, SqT K H a xs → xs[i]? = some x, fun i H => ∃ xs : List V, SqT K H a xs ∧ xs.length ≤ i⟩
theorem turn_enumT {P : Program} {w : World} {K : PySem.W.Frag} {elts : List Expr} {kk : Nat} {tpos : Pos} (a e it : Addr) (hai : a ≠ it) (hae : a ≠ e) :
    Turn P w K (.Tuple elts kk tpos) (ItU K a) [e, it] e (fun i h => (∃ old, IsEnum h e it ((i : Nat) : Int) old) ∧ h.IsTupleIter it a i ∧ e ≠ it) where
  mem := by simp
  obj := fun i h st b hb => by
    obtain ⟨⟨old, he⟩, ⟨o, ho, hc, hd⟩, _⟩ := st
    have e' : b = e ∨ b = it := by simpa using hb
    rcases e' with z | z
    · rw [z]; exact ⟨_, he, fun v q => nomatch q⟩
    · rw [z]; exact ⟨o, ho, fun v q => by rw [hd] at q; cases q⟩
  keep := fun i h h' st k => let ⟨⟨old, he⟩, hi, hne⟩ := st; ⟨⟨old, k e (by simp) _ he⟩, hi.at fun o q => k it (by simp) o q, hne⟩
  item := by
    intro X hP hw hK hc i pins s σ H E I hf st hg
    subst hP hw hK
    obtain ⟨⟨old, he⟩, hit, hne⟩ := st
    obtain ⟨xs, x, hq, hx⟩ := hg
    obtain ⟨its, rv, p, hz⟩ := I.tuple hq
    obtain ⟨u, hu, ru⟩ := rv.get hx
    have p' : s.heap.IsTuple a its.toArray := p
    have hel : e < s.heap.objs.size := Heap.lt_size he
    have hil : it < s.heap.objs.size := by obtain ⟨_, q, _⟩ := hit; exact Heap.lt_size q
    refine wpAny_pyNext_enum_itemD (fp := [it, a]) (Draws.tuple (A := X.A.in1) (I.ok.hd hc) it a hai its.toArray) he ⟨hit, p'⟩ (by have := (List.getElem?_eq_some_iff.mp hu).1; simpa using this) hne (by simp [hne, Ne.symm hae]) fun x' h' tk hP ho st' hT hsz hk => ?_
    have ex : x' = u := by
      have h1 : its.toArray[i]? = some u := by simpa using hu
      exact Option.some.inj (hP.symm.trans h1)
    subst ex
    obtain ⟨hit', _⟩ := st'
    refine ⟨_, rfl, wpAny_letOwnedTupleGo_enum (s := { s with heap := h', toks := tk + 1 }) ho fun h'' he' sb => ?_⟩
    have hT2 : h''.get? s.heap.objs.size = some { cls := .type "tuple", data := .seq #[.int i tk, x'] } := (sb.2 _ (Nat.ne_of_gt hel)).trans hT
    have new : ObjOk X.prog X.w (upd H s.heap.objs.size (.tup [.int (i : Nat), x])) h'' s.heap.objs.size (.tup [.int (i : Nat), x]) :=
      ⟨by show 2 ≤ sizeLine; decide, [.int i tk, x'], .cons ⟨_, rfl⟩ (.cons ru .nil), ⟨_, hT2, rfl, _, rfl⟩⟩
    have I1 : Inv X pins σ (upd H s.heap.objs.size (.tup [.int (i : Nat), x])) { s with heap := h'', toks := tk + 1 } :=
      I.turnedNew (ch := [e, it]) (fun b ob hb q => (sb.2 b (fun z => hb (by simp [z]))).trans (hk b ob (fun z => hb (by simp [z])) (fun z => hb (by simp [z])) q)) hf (Nat.le_refl _) new
    refine ⟨.ref s.heap.objs.size, _, I1, rfl, ⟨_, x, rfl, I.hok.fresh (Nat.le_refl _), rfl, fun ys hy => by rw [I.tuple_inj hy hq]; exact hx⟩, ⟨⟨x', ?_⟩, hit'.at fun o q => (sb.2 it (Ne.symm hne)).trans q, hne⟩, fun b hb => ?_⟩
    · have e1 : ((i + 1 : Nat) : Int) = (i : Int) + 1 := by omega
      rw [e1]; exact he'
    · have hb' : b < s.heap.objs.size := by
        have e' : b = e ∨ b = it := by simpa using hb
        rcases e' with z | z
        · rw [z]; exact hel
        · rw [z]; exact hil
      rw [upd_ne (Nat.ne_of_lt hb')]
      exact (hf b hb).1
  done := by
    intro X hP hw hK hc i pins s σ H E I hf st hg
    subst hP hw hK
    obtain ⟨⟨old, he⟩, hit, hne⟩ := st
    obtain ⟨xs, hq, hx⟩ := hg
    obtain ⟨its, rv, p, hz⟩ := I.tuple hq
    obtain ⟨f0, f1, f2, f3, f4, f5⟩ := hf it (by simp)
    have hl := rv.length
    have p' : s.heap.IsTuple a its.toArray := p
    have D : Draws X.prog X.w X.A.in1 it [it, a] i (fun _ _ => True) (fun j h => j = i ∧ h.IsTupleIter it a i ∧ h.IsTuple a its.toArray) :=
      { live := fun _ _ st => let ⟨o, ho, _⟩ := st.2.1; ⟨o, ho⟩
        frame := fun _ _ _ st hk => ⟨st.1, st.2.1.at fun o e => hk it (by simp) o e, st.2.2.at fun o e => hk a (by simp) o e⟩
        item := fun j s Q E hi st hQ => absurd st.1 (by omega)
        done := fun s Q E st hE => wpAny_nextOf_tuple_end (I.ok.hd hc) st.2.1 st.2.2 (by simp; omega) hE }
    exact wpAny_pyNext_enum_endD (n := i) D he ⟨rfl, hit, p'⟩ fun h' eb => ⟨rfl, I.turned (t' := s.toks) (fun b o hb q => eb b o hb q) f0 f1 f3 f4 f5⟩
  self := fun A i s Q E st h => let ⟨⟨_, he⟩, _⟩ := st; wpAny_pyIter_enum he h
section
variable {prog : Program} {w : World} {A : Around} {E : Value → Shared → Prop} {s : Shared}
theorem meets_enumerate_newT (l : Addr) (items : Array Value) :
    Meets (Builtin.«enumerate.__new__» ⟨[.type "enumerate", .ref l], []⟩) (fun _ R s => s.heap.IsTuple l items ∧
      R (.ok (.ret (.ref (s.heap.push { cls := .type "tuple_iterator", data := .fields #[.ref l, .int 0 0] }).objs.size)))
        { s with heap := (s.heap.push { cls := .type "tuple_iterator", data := .fields #[.ref l, .int 0 0] }).push { cls := .type "enumerate", data := .fields #[.none, .bool false, .ref s.heap.objs.size, rawInt 0, .none, .none] } }) :=
  .of_wp fun prog w A R s h => by
    obtain ⟨hp, g, d, tk, os⟩ := s; obtain ⟨hL, h⟩ := h
    have hsub := sub_enumerate
    obtain ⟨o, hl, hc, hd⟩ := id hL
    wp_walk using AutoSeq1.wpAny_loadPart' hl
    refine wpAny_stack_any fun st => wpAny_pure ?_
    split
    · rename_i c _ _ _ _ _
      cases (c == Value.type "enumerate")
      · wp_walk using AutoSeq1.wpAny_loadPart' hl, wpAny_pyIter_tuple hL
        exact ⟨_, rfl, h⟩
      · wp_walk using AutoSeq1.wpAny_loadPart' hl, wpAny_pyIter_tuple hL
        exact ⟨_, rfl, h⟩
    · wp_walk using AutoSeq1.wpAny_loadPart' hl, wpAny_pyIter_tuple hL
      exact ⟨_, rfl, h⟩
theorem call_enumerate_tuple {l : Addr} {items : Array Value} {Q : Value → Shared → Prop} (hL : s.heap.IsTuple l items)
    (h : ∀ h', IsEnum h' (s.heap.objs.size + 1) s.heap.objs.size 0 .none → h'.IsTupleIter s.heap.objs.size l 0 → h'.objs.size = s.heap.objs.size + 2 →
      (∀ b o, s.heap.get? b = some o → h'.get? b = some o) → Q (.ref (s.heap.objs.size + 1)) { s with heap := h' }) :
    wpAny (model prog w) A (call (.type "enumerate") [.ref l]) Q E s := by
  refine callType_new PySem.F.called_enumerate (by decide) (PySem.F.typeCall_enumerate_1 _) (PySem.F.newCall_enumerate_1 _) (fun obj => PySem.F.args_object_init_2 obj _) PySem.F.entry_enumerate_new
    (meets_enumerate_newT l items) ⟨hL, ?_⟩
  have hz : (s.heap.push { cls := .type "tuple_iterator", data := .fields #[.ref l, .int 0 0] }).objs.size = s.heap.objs.size + 1 := Heap.size_push ..
  show _ ∧ _
  rw [hz]
  have he : IsEnum ((s.heap.push { cls := .type "tuple_iterator", data := .fields #[.ref l, .int 0 0] }).push
      { cls := .type "enumerate", data := .fields #[.none, .bool false, .ref s.heap.objs.size, rawInt 0, .none, .none] }) (s.heap.objs.size + 1) s.heap.objs.size 0 .none := by
    have := Heap.get?_push_size (s.heap.push { cls := .type "tuple_iterator", data := .fields #[.ref l, .int 0 0] })
      (o := { cls := .type "enumerate", data := .fields #[.none, .bool false, .ref s.heap.objs.size, rawInt 0, .none, .none] }) rfl
    rw [hz] at this; exact this
  refine ⟨⟨_, he, rfl⟩, h _ he ⟨_, Heap.get?_push_of_some _ (Heap.get?_push_size _ rfl), rfl, rfl⟩ (by rw [Heap.size_push, hz]) fun b o x => Heap.get?_push_of_some _ (Heap.get?_push_of_some _ x)⟩
end
def iEnumA (K : PySem.W.Frag) (ta : TA) : TI := fun σ H R => ta σ H fun vs H1 => ∃ a xs, vs = [.ref a] ∧ ((SqL K H1 a xs ∧ R (Ite K a) H1) ∨ (SqT K H1 a xs ∧ R (ItU K a) H1))
theorem pi_enumA {ta : TA} {tpos : Pos} {elts : List Expr} {kk : Nat} (hg : Gl X "enumerate") (hm : X.mg "enumerate" = none) (ha : PA X [e] ta) (hs : starEach [e] X.env = [(false, eval e X.env)] := by rfl) :
    PI X (.Tuple elts kk tpos) (.Call (.Name "enumerate" p) [e] [] pos) (iEnumA X.K ta) := by
  refine ⟨fun pins s σ H R I h => ?_⟩
  refine Call_ (ld_blt I hg hm boot_enumerate (PyProof.Rows.callWith_type1 (thn (ha.run pos pins s σ H _ I h) fun us s1 ⟨vs, H1, I1, r1, q1⟩ => ?_) hs rfl))
  obtain ⟨a, xs, ex, q⟩ := q1
  subst ex
  cases r1 with
  | cons r rr =>
    cases rr
    cases r
    have fps : ∀ b ∈ [s1.heap.objs.size + 1, s1.heap.objs.size], FpOk X pins H1 b := fun b hb => by
      have e' : b = s1.heap.objs.size + 1 ∨ b = s1.heap.objs.size := by simpa using hb
      have hle : s1.heap.objs.size ≤ b := by
        rcases e' with z | z
        · rw [z]; exact Nat.le_add_right _ _
        · rw [z]; exact Nat.le_refl _
      exact I1.fpOk hle (I1.hok.fresh hle)
    rcases q with ⟨hq, q⟩ | ⟨hq, q⟩
    · obtain ⟨its, rv, p', hz⟩ := I1.list hq
      refine call_enumerate_list p'.isList fun h' he hit hsz hk => wpAny_pyIter_enum he ?_
      have I2 : Inv X pins σ H1 { s1 with heap := h' } := I1.kept (t' := s1.toks) hk
      exact ⟨s1.heap.objs.size + 1, [s1.heap.objs.size + 1, s1.heap.objs.size], _, _, H1, rfl, I2, turn_enum a (s1.heap.objs.size + 1) s1.heap.objs.size, ⟨⟨.none, he⟩, hit, Nat.succ_ne_self _⟩, fps, q⟩
    · obtain ⟨its, rv, p', hz⟩ := I1.tuple hq
      have p2 : s1.heap.IsTuple a its.toArray := p'
      have hal : a < s1.heap.objs.size := by obtain ⟨_, q, _⟩ := p2; exact Heap.lt_size q
      refine call_enumerate_tuple p2 fun h' he hit hsz hk => wpAny_pyIter_enum he ?_
      have I2 : Inv X pins σ H1 { s1 with heap := h' } := I1.kept (t' := s1.toks) hk
      exact ⟨s1.heap.objs.size + 1, [s1.heap.objs.size + 1, s1.heap.objs.size], _, _, H1, rfl, I2, turn_enumT a (s1.heap.objs.size + 1) s1.heap.objs.size (Nat.ne_of_lt hal) (Nat.ne_of_lt (Nat.lt_succ_of_lt hal)), ⟨⟨.none, he⟩, hit, Nat.succ_ne_self _⟩, fps, q⟩
def enumL : Nat → List D → List D
  | _, [] => []
  | i, d :: ds => .tuple [.int i, d] :: enumL (i + 1) ds
theorem enumL_len : ∀ (i : Nat) (ds : List D), (enumL i ds).length = ds.length
  | _, [] => rfl
  | i, d :: ds => congrArg (· + 1) (enumL_len (i + 1) ds)
theorem enumL_get : ∀ (i j : Nat) (ds : List D), (enumL i ds)[j]? = ds[j]?.map fun d => .tuple [.int (i + j : Nat), d]
  | _, _, [] => rfl
  | i, 0, d :: ds => rfl
  | i, j + 1, d :: ds => by
    have e := enumL_get (i + 1) j ds
    have e2 : i + 1 + j = i + (j + 1) := by omega
    rw [e2] at e
    exact e
def enumOf (ds : List D) : Option (List D) := match ds with
  | [.list xs] => some (enumL 0 xs)
  | [.tuple xs] => some (enumL 0 xs)
  | _ => none
def gEnum (gs : Md (List D)) : Md (List D) := fun ρ => (gs ρ).bind fun p => (enumOf p.1).bind fun ds => some (ds, p.2)
theorem it_enum {K : PySem.W.Frag} {F : Hp} {a : Addr} {vs : List V} {ds : List D} (h : SqL K F a vs) (r : RpAll K F vs ds) : ItOk K F (Ite K a) (enumL 0 ds) := fun F1 H s1 s2 i => by
  have hH := (s1.trans s2).seq h
  refine ⟨fun d e => ?_, fun hl => ⟨vs, hH, by rw [da_len r, ← enumL_len 0]; exact hl⟩⟩
  rw [enumL_get] at e
  obtain ⟨d0, e0, ed⟩ := Option.map_eq_some_iff.mp e
  subst ed
  obtain ⟨v, e1, rv⟩ := da_at r e0
  refine ⟨⟨vs, v, hH, e1⟩, fun y H' hy => ?_⟩
  obtain ⟨T, x, rfl, hT, rfl, hy⟩ := hy
  have e2 := (hy vs hH).symm.trans e1
  cases e2
  have gr : Grow F1 H (upd F1 T (.tup [.int (i : Nat), v])) (upd H T (.tup [.int (i : Nat), v])) := Grow.val s2 hT
  refine ⟨_, gr, .tup (.inl (.inl upd_same)) (.cons ?_ (.cons (dp_mono (s1.trans gr.ff) _ _ rv) .nil))⟩
  rw [Nat.zero_add]
  exact .int _
theorem it_enumT {K : PySem.W.Frag} {F : Hp} {a : Addr} {vs : List V} {ds : List D} (h : SqT K F a vs) (r : RpAll K F vs ds) : ItOk K F (ItU K a) (enumL 0 ds) := fun F1 H s1 s2 i => by
  have hH := seqT_same (s1.trans s2) h
  refine ⟨fun d e => ?_, fun hl => ⟨vs, hH, by rw [da_len r, ← enumL_len 0]; exact hl⟩⟩
  rw [enumL_get] at e
  obtain ⟨d0, e0, ed⟩ := Option.map_eq_some_iff.mp e
  subst ed
  obtain ⟨v, e1, rv⟩ := da_at r e0
  refine ⟨⟨vs, v, hH, e1⟩, fun y H' hy => ?_⟩
  obtain ⟨T, x, rfl, hT, rfl, hy⟩ := hy
  have e2 := (hy vs hH).symm.trans e1
  cases e2
  have gr : Grow F1 H (upd F1 T (.tup [.int (i : Nat), v])) (upd H T (.tup [.int (i : Nat), v])) := Grow.val s2 hT
  refine ⟨_, gr, .tup (.inl (.inl upd_same)) (.cons ?_ (.cons (dp_mono (s1.trans gr.ff) _ _ rv) .nil))⟩
  rw [Nat.zero_add]
  exact .int _
theorem di_enum {gs : Md (List D)} {tpos : Pos} {elts : List Expr} {kk : Nat} (hg : Gl X "enumerate") (hm : X.mg "enumerate" = none) (ha : DA X [e] gs) (hs : starEach [e] X.env = [(false, eval e X.env)] := by rfl) :
    DI X (.Tuple elts kk tpos) (.Call (.Name "enumerate" p) [e] [] pos) (gEnum gs) :=
  pi_imp (pi_enumA hg hm ha hs) fun σ H R q => by
    obtain ⟨F, ρ, ds, ρ', s, eg, k⟩ := q
    obtain ⟨⟨d, ρ1⟩, e1, eg1⟩ := bind_some eg
    obtain ⟨z, e2, eg2⟩ := bind_some eg1
    cases eg2
    refine ⟨F, ρ, d, _, s, e1, fun vs F1 H1 p1 s1 r1 => ?_⟩
    simp only at e2
    unfold enumOf at e2
    split at e2
    · cases e2
      obtain ⟨v, rfl, rv⟩ := da1 r1
      cases rv with
      | @lst a vs _ h1 d1 => exact ⟨a, vs, rfl, .inl ⟨s1.sub.seq h1, k _ F1 H1 p1 s1 (it_enum h1 d1)⟩⟩
    · cases e2
      obtain ⟨v, rfl, rv⟩ := da1 r1
      cases rv with
      | @tup a vs _ h1 d1 => exact ⟨a, vs, rfl, .inr ⟨seqT_same s1.sub h1, k _ F1 H1 p1 s1 (it_enumT h1 d1)⟩⟩
    · cases e2

/-! ### {k: v, ..} -/
def keyOf : D → Option Key
  | .int i => some (.inl i)
  | .str x => some (.inr x)
  | _ => none
def gKV : List (Md D × Md D) → Md (List (D × D))
  | [] => fun ρ => some ([], ρ)
  | (gk, gv) :: r => fun ρ => (gk ρ).bind fun p => (gv p.2).bind fun q => (gKV r q.2).bind fun z => some ((p.1, q.1) :: z.1, z.2)
def keysOk (es : List (D × D)) : Bool := es.all (fun p => (keyOf p.1).isSome) && decide ((es.map fun p => keyOf p.1).Nodup) && decide (es.length ≤ 15)
def gDic (gs : List (Md D × Md D)) : Md D := fun ρ => (gKV gs ρ).bind fun p => if keysOk p.1 = true then some (.dict p.1, p.2) else none
theorem keyD_of {d : D} {k : Key} (h : keyOf d = some k) : keyD k = d := by
  cases d <;> simp [keyOf] at h <;> subst h <;> rfl
theorem rp_key {K : PySem.W.Frag} {F : Hp} {v : V} {d : D} {k : Key} (r : Rp K F v d) (h : keyOf d = some k) : v = kV k := by
  cases d <;> simp [keyOf] at h <;> subst h <;> cases r <;> rfl
inductive DKV (X : Cx) (pos : Pos) : List (Option Expr) → List Expr → List (Md D × Md D) → Prop
  | nil : DKV X pos [] [] []
  | cons {k v : Expr} {ks : List (Option Expr)} {vs : List Expr} {gk gv : Md D} {r : List (Md D × Md D)} (h1 : DE X k gk) (h2 : DE X v gv) (h3 : DKV X pos ks vs r) : DKV X pos (some k :: ks) (v :: vs) ((gk, gv) :: r)
def tOf (X : Cx) (gs : List (Md D × Md D)) : List (TE × TE) := gs.map fun p => (tD X.K p.1, tD X.K p.2)
theorem DKV.pps {ks : List (Option Expr)} {vs : List Expr} {gs : List (Md D × Md D)} (h : DKV X pos ks vs gs) : PPs X pos ks vs (tOf X gs) := by
  induction h with
  | nil => exact pps_nil
  | cons h1 h2 h3 ih => exact pps_cons h1 h2 ih
theorem DKV.facts {ks : List (Option Expr)} {vs : List Expr} {gs : List (Md D × Md D)} (h : DKV X pos ks vs gs) : ks.all (·.isSome) = true ∧ ks.length = vs.length ∧ ks.length = gs.length := by
  induction h with
  | nil => exact ⟨rfl, rfl, rfl⟩
  | cons h1 h2 h3 ih => exact ⟨by simpa using ih.1, by simp [ih.2.1], by simp [ih.2.2]⟩
inductive RpP (K : PySem.W.Frag) (F : Hp) : List (V × V) → List (D × D) → Prop
  | nil : RpP K F [] []
  | cons {k v : V} {dk dv : D} {ps : List (V × V)} {es : List (D × D)} (h1 : Rp K F k dk) (h2 : Rp K F v dv) (h3 : RpP K F ps es) : RpP K F ((k, v) :: ps) ((dk, dv) :: es)
theorem tkv_q {K : PySem.W.Frag} : ∀ (gs : List (Md D × Md D)) {σ : L2.St} {F H : Hp} {ρ ρ' : Env} {es : List (D × D)} {Q : List (V × V) → Hp → Prop} (s : St K F H σ ρ) (e : gKV gs ρ = some (es, ρ'))
    (k : ∀ ps F' H', Stp F σ ρ H F' σ ρ' H' → St K F' H' σ ρ' → RpP K F' ps es → Q ps H'), tPairs (gs.map fun p => (tD K p.1, tD K p.2)) σ H Q
  | [], σ, F, H, ρ, ρ', es, Q, s, e, k => by
    cases e
    exact k [] F H Stp.refl s .nil
  | (gk, gv) :: r, σ, F, H, ρ, ρ', es, Q, s, e, k => by
    obtain ⟨⟨dk, ρ1⟩, e1, e⟩ := bind_some e
    obtain ⟨⟨dv, ρ2⟩, e2, e⟩ := bind_some e
    obtain ⟨⟨z, ρ3⟩, e3, e⟩ := bind_some e
    cases e
    refine ⟨F, ρ, dk, ρ1, s, e1, fun x F1 H1 p1 s1 r1 => ⟨F1, ρ1, dv, ρ2, s1, e2, fun y F2 H2 p2 s2 r2 => tkv_q r s2 e3 fun ps F3 H3 p3 s3 r3 => k _ F3 H3 ((p1.trans p2).trans p3) s3 (.cons (dp_mono (p2.ff.trans p3.ff) _ _ r1) (dp_mono p3.ff _ _ r2) r3)⟩⟩
theorem rpP_kv {K : PySem.W.Frag} {F : Hp} {ps : List (V × V)} {es : List (D × D)} (r : RpP K F ps es) : es.all (fun p => (keyOf p.1).isSome) = true → ∃ kvs : List (Key × V), ps = kvs.map (fun kv => (kV kv.1, kv.2)) ∧ RpKV K F kvs es ∧ kvs.map (fun kv => some kv.1) = es.map fun p => keyOf p.1 := by
  induction r with
  | nil => exact fun _ => ⟨[], rfl, .nil, rfl⟩
  | @cons k v dk dv ps es h1 h2 h3 ih =>
    intro hk
    rw [List.all_cons, Bool.and_eq_true] at hk
    obtain ⟨kvs, i1, i2, i3⟩ := ih hk.2
    obtain ⟨q, hq⟩ := Option.isSome_iff_exists.mp hk.1
    simp only at hq
    have e1 := rp_key h1 hq
    subst e1
    have e2 := keyD_of hq
    subst e2
    exact ⟨(q, v) :: kvs, by rw [i1]; rfl, .cons h2 i2, by simp [i3, hq]⟩
theorem putK_new {kvs : List (Key × V)} {k : Key} {v : V} (h : ∀ p ∈ kvs, p.1 ≠ k) : putK kvs k v = kvs ++ [(k, v)] := by
  unfold putK
  rw [if_neg]
  intro q
  obtain ⟨p, hp, e⟩ := List.any_eq_true.mp q
  exact h p hp (of_decide_eq_true e)
theorem mergeK_new : ∀ {more kvs : List (Key × V)}, ((kvs ++ more).map (·.1)).Nodup → mergeK kvs more = kvs ++ more
  | [], kvs, _ => (List.append_nil kvs).symm
  | (k, v) :: r, kvs, h => by
    have h1 : ∀ p ∈ kvs, p.1 ≠ k := fun p hp e => by
      rw [List.map_append, List.nodup_append] at h
      exact h.2.2 p.1 (List.mem_map.mpr ⟨p, hp, rfl⟩) k (by simp) e
    show mergeK (putK kvs k v) r = _
    rw [putK_new h1, mergeK_new (by simpa using h), List.append_assoc]
    rfl
theorem de_dic {ks : List (Option Expr)} {vs : List Expr} {gs : List (Md D × Md D)} (h : DKV X pos ks vs gs) (h0 : ks ≠ []) (h15 : ks.length ≤ 15) : DE X (.Dict ks vs pos) (gDic gs) :=
  pe_imp (pe_disp h.pps h.facts.1 h.facts.2.1 h0 h15) fun σ H Q q => by
    obtain ⟨F, ρ, d, ρ', s, eg, k⟩ := q
    obtain ⟨⟨es, ρ1⟩, e1, eg⟩ := bind_some eg
    simp only at eg
    split at eg
    · rename_i hk
      have ee := congrArg Prod.snd (Option.some.inj eg)
      have ed := congrArg Prod.fst (Option.some.inj eg)
      simp only at ee ed
      subst ee ed
      unfold keysOk at hk
      simp only [Bool.and_eq_true, decide_eq_true_eq] at hk
      obtain ⟨⟨hk1, hk2⟩, hk3⟩ := hk
      intro p hp
      have hF : F p = none := by
        cases z : F p with
        | none => rfl
        | some o => have := s.sub _ _ z; rw [hp] at this; cases this
      have hno : ¬ Owns σ ρ p := fun z => by
        obtain ⟨_, u, e⟩ := s.free z
        rw [hp] at e
        cases e
      have gr : Grow F H F (upd H p (.dK [])) := Grow.own s.sub hp
      refine tkv_q gs (s.grow gr) e1 fun ps F2 H2 p2 s2 r2 => ?_
      obtain ⟨k1, k2⟩ := p2.keep p _ upd_same hno
      obtain ⟨kvs, i1, i2, i3⟩ := rpP_kv r2 hk1
      have hl : kvs.length = es.length := by simpa using congrArg List.length i3
      have hnd : (kvs.map (·.1)).Nodup := by
        rw [← i3] at hk2
        have e4 : kvs.map (fun kv => some kv.1) = (kvs.map (·.1)).map some := by simp
        rw [e4] at hk2
        exact List.Pairwise.imp (fun h => fun e => h (congrArg some e)) (List.pairwise_map.mp hk2)
      refine ⟨k1, kvs, i1, by omega, ?_⟩
      have em : mergeK [] kvs = kvs := mergeK_new (kvs := []) (by simpa using hnd)
      rw [em]
      have hF2 : F2 p = none := k2.trans hF
      have p3 : Stp F σ ρ H F2 σ ρ1 H2 := (gr.stp σ ρ).trans p2
      have hn2 : ¬ Owns σ ρ1 p := fun z => by
        rcases p2.fresh p z with y | y
        · exact hno y
        · rw [upd_same] at y; cases y
      have sf : Same F2 (upd F2 p (.dK kvs)) := same_new hF2
      refine k (.ref p) (upd F2 p (.dK kvs)) (upd H2 p (.dK kvs)) ⟨p3.ff.trans sf, fun b o hb nb => ?_, p3.fresh, p3.fix, fun b o hb => ?_⟩ ?_ (.dic upd_same (dpKV_mono sf _ _ i2))
      · obtain ⟨j1, j2⟩ := p3.keep b o hb nb
        have nbp : b ≠ p := ne_of_none hb hp
        exact ⟨(upd_ne nbp).trans j1, (upd_ne nbp).trans j2⟩
      · obtain ⟨o', j⟩ := p3.dom b o hb
        exact ⟨o', (upd_ne (ne_of_none hb hp)).trans j⟩
      · refine ⟨fun b x hb => ?_, s2.len, fun i c hi => ?_, s2.dist⟩
        · by_cases z : b = p
          · subst z
            rw [upd_same] at hb ⊢
            exact hb
          · rw [upd_ne z] at hb ⊢
            exact s2.sub b x hb
        · have q := s2.cell i c hi
          cases c with
          | val d =>
            obtain ⟨v, j1, j2⟩ := q
            exact ⟨v, j1, dp_mono sf _ _ j2⟩
          | own f d =>
            obtain ⟨b, j1, j2⟩ := q
            have nb : b ≠ p := fun z => by
              subst z
              exact hn2 ⟨i, f, d, hi, j1⟩
            obtain ⟨j3, xs, ds, j4, j5, j6⟩ := j2
            exact ⟨b, j1, (upd_ne nb).trans j3, xs, ds, j4, (upd_ne nb).trans j5, dpAll_mono sf _ _ j6⟩
    · cases eg
end
end Dn
set_option maxHeartbeats 2000000
/-! sorted: data of whole numbers, texts, tuples of these; in a tuple the first place that differs decides -/
namespace DnSo
open PySem PySem.SeqAt PyProof.Rows PySem.W SrtO DnLt

def rk3 : PyData → Nat
  | .none => 0
  | .bool _ => 1
  | .int _ => 2
  | .str _ => 3
  | .tuple _ => 4
  | .list _ => 5
  | .dict _ => 6
mutual
def cmp3 : PyData → PyData → Ordering
  | .int i, .int j => if i < j then .lt else if j < i then .gt else .eq
  | .str a, .str b => if a.cps.toList < b.cps.toList then .lt else if b.cps.toList < a.cps.toList then .gt else .eq
  | .tuple xs, .tuple ys => cmpL xs ys
  | d, e => if rk3 d < rk3 e then .lt else if rk3 e < rk3 d then .gt else .eq
def cmpL : List PyData → List PyData → Ordering
  | [], [] => .eq
  | [], _ :: _ => .lt
  | _ :: _, [] => .gt
  | x :: xs, y :: ys => (cmp3 x y).then (cmpL xs ys)
end
theorem cmp3_rk {d e : PyData} (h : rk3 d ≠ rk3 e) : cmp3 d e = if rk3 d < rk3 e then .lt else .gt := by
  have hl : ¬ rk3 d < rk3 e → rk3 e < rk3 d := by omega
  cases d <;> cases e <;> first | (exfalso; exact h rfl) | (simp [cmp3, rk3])
theorem lst_tri (a b : List Nat) : a < b ∨ a = b ∨ b < a := by
  by_cases h : a < b
  · exact .inl h
  · by_cases h2 : b < a
    · exact .inr (.inr h2)
    · exact .inr (.inl (List.le_antisymm (List.not_lt.mp h2) (List.not_lt.mp h)))
theorem rk_le {d e : PyData} (h : cmp3 d e ≠ .gt) : rk3 d ≤ rk3 e := by
  by_cases q : rk3 d = rk3 e
  · omega
  · rw [cmp3_rk q] at h
    by_cases a : rk3 d < rk3 e
    · omega
    · simp [a] at h
theorem rk_lt {d e : PyData} (h : rk3 d < rk3 e) : cmp3 d e = .lt := by
  rw [cmp3_rk (by omega), if_pos h]
theorem swap_rk {d e : PyData} (h : rk3 d ≠ rk3 e) : cmp3 e d = (cmp3 d e).swap := by
  rw [cmp3_rk h, cmp3_rk (Ne.symm h)]
  by_cases a : rk3 d < rk3 e
  · rw [if_pos a, if_neg (by omega)]
    rfl
  · rw [if_neg a, if_pos (by omega)]
    rfl
theorem trans_rk {d e f : PyData} (h : ¬ (rk3 d = rk3 e ∧ rk3 e = rk3 f)) (h1 : cmp3 d e ≠ .gt) (h2 : cmp3 e f ≠ .gt) : cmp3 d f = (cmp3 d e).then (cmp3 e f) := by
  have a := rk_le h1
  have b := rk_le h2
  rw [rk_lt (show rk3 d < rk3 f by omega)]
  by_cases q : rk3 d < rk3 e
  · rw [rk_lt q]
    rfl
  · rw [rk_lt (show rk3 e < rk3 f by omega)]
    cases hc : cmp3 d e with
    | lt => rfl
    | eq => rfl
    | gt => exact absurd hc h1
theorem trans_int {i j k : Int} (h1 : cmp3 (.int i) (.int j) ≠ .gt) (h2 : cmp3 (.int j) (.int k) ≠ .gt) : cmp3 (.int i) (.int k) = (cmp3 (.int i) (.int j)).then (cmp3 (.int j) (.int k)) := by
  simp only [cmp3] at h1 h2 ⊢
  have e1 : ¬ j < i := fun z => by
    rw [if_neg (show ¬ i < j by omega), if_pos z] at h1
    exact h1 rfl
  have e2 : ¬ k < j := fun z => by
    rw [if_neg (show ¬ j < k by omega), if_pos z] at h2
    exact h2 rfl
  by_cases a : i < j
  · rw [if_pos a, if_pos (show i < k by omega)]
    rfl
  · have : i = j := by omega
    subst this
    rw [if_neg a, if_neg a]
    rfl
theorem trans_str {i j k : Str} (h1 : cmp3 (.str i) (.str j) ≠ .gt) (h2 : cmp3 (.str j) (.str k) ≠ .gt) : cmp3 (.str i) (.str k) = (cmp3 (.str i) (.str j)).then (cmp3 (.str j) (.str k)) := by
  simp only [cmp3] at h1 h2 ⊢
  generalize i.cps.toList = i at h1 ⊢
  generalize k.cps.toList = k at h2 ⊢
  generalize j.cps.toList = j at h1 h2 ⊢
  have e1 : ¬ j < i := fun z => by
    rw [if_neg (fun y => List.lt_asymm y z), if_pos z] at h1
    exact h1 rfl
  have e2 : ¬ k < j := fun z => by
    rw [if_neg (fun y => List.lt_asymm y z), if_pos z] at h2
    exact h2 rfl
  by_cases a : i < j
  · have b : i < k := by
      rcases lst_tri j k with h | h | h
      · exact List.lt_trans a h
      · exact h ▸ a
      · exact absurd h e2
    rw [if_pos a, if_pos b]
    rfl
  · have : i = j := List.le_antisymm (List.not_lt.mp e1) (List.not_lt.mp a)
    subst this
    rw [if_neg a, if_neg a]
    rfl
mutual
theorem trans3 : ∀ (d e f : PyData), cmp3 d e ≠ .gt → cmp3 e f ≠ .gt → cmp3 d f = (cmp3 d e).then (cmp3 e f)
  | .tuple xs, e, f, h1, h2 => by
    by_cases q : rk3 (.tuple xs) = rk3 e ∧ rk3 e = rk3 f
    · obtain ⟨q1, q2⟩ := q
      cases e <;> simp only [rk3, reduceCtorEq, Nat.reduceEqDiff] at q1
      cases f <;> simp only [rk3, reduceCtorEq, Nat.reduceEqDiff] at q2
      simp only [cmp3] at h1 h2 ⊢
      exact transL xs _ _ h1 h2
    · exact trans_rk q h1 h2
  | .int i, e, f, h1, h2 => by
    by_cases q : rk3 (.int i) = rk3 e ∧ rk3 e = rk3 f
    · obtain ⟨q1, q2⟩ := q
      cases e <;> simp only [rk3, reduceCtorEq, Nat.reduceEqDiff] at q1
      cases f <;> simp only [rk3, reduceCtorEq, Nat.reduceEqDiff] at q2
      exact trans_int h1 h2
    · exact trans_rk q h1 h2
  | .str i, e, f, h1, h2 => by
    by_cases q : rk3 (.str i) = rk3 e ∧ rk3 e = rk3 f
    · obtain ⟨q1, q2⟩ := q
      cases e <;> simp only [rk3, reduceCtorEq, Nat.reduceEqDiff] at q1
      cases f <;> simp only [rk3, reduceCtorEq, Nat.reduceEqDiff] at q2
      exact trans_str h1 h2
    · exact trans_rk q h1 h2
  | .none, e, f, h1, h2 => by
    by_cases q : rk3 .none = rk3 e ∧ rk3 e = rk3 f
    · obtain ⟨q1, q2⟩ := q
      cases e <;> simp only [rk3, reduceCtorEq, Nat.reduceEqDiff] at q1
      cases f <;> simp only [rk3, reduceCtorEq, Nat.reduceEqDiff] at q2
      simp [cmp3, rk3]
    · exact trans_rk q h1 h2
  | .bool i, e, f, h1, h2 => by
    by_cases q : rk3 (.bool i) = rk3 e ∧ rk3 e = rk3 f
    · obtain ⟨q1, q2⟩ := q
      cases e <;> simp only [rk3, reduceCtorEq, Nat.reduceEqDiff] at q1
      cases f <;> simp only [rk3, reduceCtorEq, Nat.reduceEqDiff] at q2
      simp [cmp3, rk3]
    · exact trans_rk q h1 h2
  | .list i, e, f, h1, h2 => by
    by_cases q : rk3 (.list i) = rk3 e ∧ rk3 e = rk3 f
    · obtain ⟨q1, q2⟩ := q
      cases e <;> simp only [rk3, reduceCtorEq, Nat.reduceEqDiff] at q1
      cases f <;> simp only [rk3, reduceCtorEq, Nat.reduceEqDiff] at q2
      simp [cmp3, rk3]
    · exact trans_rk q h1 h2
  | .dict i, e, f, h1, h2 => by
    by_cases q : rk3 (.dict i) = rk3 e ∧ rk3 e = rk3 f
    · obtain ⟨q1, q2⟩ := q
      cases e <;> simp only [rk3, reduceCtorEq, Nat.reduceEqDiff] at q1
      cases f <;> simp only [rk3, reduceCtorEq, Nat.reduceEqDiff] at q2
      simp [cmp3, rk3]
    · exact trans_rk q h1 h2
theorem transL : ∀ (xs ys zs : List PyData), cmpL xs ys ≠ .gt → cmpL ys zs ≠ .gt → cmpL xs zs = (cmpL xs ys).then (cmpL ys zs)
  | [], [], zs, _, _ => by cases zs <;> rfl
  | [], _ :: _, [], _, h2 => absurd rfl h2
  | [], _ :: _, _ :: _, _, _ => rfl
  | _ :: _, [], _, h1, _ => absurd rfl h1
  | _ :: _, _ :: _, [], _, h2 => absurd rfl h2
  | x :: xs, y :: ys, z :: zs, h1, h2 => by
    simp only [cmpL] at h1 h2 ⊢
    have g1 : cmp3 x y ≠ .gt := fun q => by rw [q] at h1; exact h1 rfl
    have g2 : cmp3 y z ≠ .gt := fun q => by rw [q] at h2; exact h2 rfl
    rw [trans3 x y z g1 g2]
    cases q1 : cmp3 x y with
    | gt => exact absurd q1 g1
    | lt => rfl
    | eq =>
      cases q2 : cmp3 y z with
      | gt => exact absurd q2 g2
      | lt =>
        rw [q1] at h1
        cases q3 : cmpL xs ys with
        | gt => rw [q3] at h1; exact absurd rfl h1
        | lt => rfl
        | eq => rfl
      | eq =>
        rw [q1] at h1
        rw [q2] at h2
        exact transL xs ys zs h1 h2
end
mutual
theorem swap3 : ∀ (d e : PyData), cmp3 e d = (cmp3 d e).swap
  | .tuple xs, e => by
    by_cases q : rk3 (.tuple xs) = rk3 e
    · cases e <;> simp only [rk3, reduceCtorEq, Nat.reduceEqDiff] at q
      simp only [cmp3]
      exact swapL xs _
    · exact swap_rk q
  | .int i, e => by
    by_cases q : rk3 (.int i) = rk3 e
    · cases e <;> simp only [rk3, reduceCtorEq, Nat.reduceEqDiff] at q
      rename_i j
      simp only [cmp3]
      by_cases a : i < j
      · rw [if_pos a, if_neg (by omega), if_pos a]
        rfl
      · by_cases b : j < i
        · rw [if_pos b, if_neg a, if_pos b]
          rfl
        · rw [if_neg b, if_neg a, if_neg a, if_neg b]
          rfl
    · exact swap_rk q
  | .str i, e => by
    by_cases q : rk3 (.str i) = rk3 e
    · cases e <;> simp only [rk3, reduceCtorEq, Nat.reduceEqDiff] at q
      rename_i j
      simp only [cmp3]
      by_cases a : i.cps.toList < j.cps.toList
      · rw [if_pos a, if_neg (fun z => List.lt_asymm a z), if_pos a]
        rfl
      · by_cases b : j.cps.toList < i.cps.toList
        · rw [if_pos b, if_neg a, if_pos b]
          rfl
        · rw [if_neg b, if_neg a, if_neg a, if_neg b]
          rfl
    · exact swap_rk q
  | .none, e => by
    by_cases q : rk3 .none = rk3 e
    · cases e <;> simp only [rk3, reduceCtorEq, Nat.reduceEqDiff] at q
      simp [cmp3, rk3]
    · exact swap_rk q
  | .bool i, e => by
    by_cases q : rk3 (.bool i) = rk3 e
    · cases e <;> simp only [rk3, reduceCtorEq, Nat.reduceEqDiff] at q
      simp [cmp3, rk3]
    · exact swap_rk q
  | .list i, e => by
    by_cases q : rk3 (.list i) = rk3 e
    · cases e <;> simp only [rk3, reduceCtorEq, Nat.reduceEqDiff] at q
      simp [cmp3, rk3]
    · exact swap_rk q
  | .dict i, e => by
    by_cases q : rk3 (.dict i) = rk3 e
    · cases e <;> simp only [rk3, reduceCtorEq, Nat.reduceEqDiff] at q
      simp [cmp3, rk3]
    · exact swap_rk q
theorem swapL : ∀ (xs ys : List PyData), cmpL ys xs = (cmpL xs ys).swap
  | [], [] => rfl
  | [], _ :: _ => rfl
  | _ :: _, [] => rfl
  | x :: xs, y :: ys => by
    simp only [cmpL]
    rw [swap3 x y, swapL xs ys]
    cases cmp3 x y <;> rfl
end
theorem swo3 : Swo (fun d e : PyData => cmp3 d e == .lt) := by
  refine ⟨fun x y h => ?_, fun x y z h1 h2 => ?_⟩
  · have e : cmp3 x y = .lt := by simpa using h
    rw [swap3 x y, e]
    rfl
  · have a1 : cmp3 x y ≠ .gt := fun q => by
      rw [swap3 x y, q] at h1
      exact absurd h1 (by decide)
    have a2 : cmp3 y z ≠ .gt := fun q => by
      rw [swap3 y z, q] at h2
      exact absurd h2 (by decide)
    have a3 := trans3 x y z a1 a2
    rw [swap3 x z, a3]
    cases q1 : cmp3 x y with
    | gt => exact absurd q1 a1
    | lt => rfl
    | eq =>
      cases q2 : cmp3 y z with
      | gt => exact absurd q2 a2
      | lt => rfl
      | eq => rfl
/-! plain data that stand in an order: whole numbers, texts, tuples -/
mutual
def ord0 : PyData → Bool
  | .int _ => true
  | .str _ => true
  | .tuple xs => ordL xs
  | _ => false
def ordL : List PyData → Bool
  | [] => true
  | x :: xs => ord0 x && ordL xs
end
mutual
theorem eq_of_cmp : ∀ (d e : PyData), ord0 d = true → ord0 e = true → cmp3 d e = .eq → d = e
  | .tuple xs, e, h1, h2, h => by
    cases e <;> simp only [ord0, Bool.false_eq_true] at h2
    · simp [cmp3, rk3] at h
    · simp [cmp3, rk3] at h
    · simp only [cmp3] at h
      rw [eqL_of_cmp xs _ (by simpa [ord0] using h1) h2 h]
  | .int i, e, h1, h2, h => by
    cases e <;> simp only [ord0, Bool.false_eq_true] at h2
    · simp only [cmp3] at h
      rename_i j
      by_cases a : i < j
      · simp [a] at h
      · by_cases b : j < i
        · simp [a, b] at h
        · rw [show i = j by omega]
    · simp [cmp3, rk3] at h
    · simp [cmp3, rk3] at h
  | .str i, e, h1, h2, h => by
    cases e <;> simp only [ord0, Bool.false_eq_true] at h2
    · simp [cmp3, rk3] at h
    · simp only [cmp3] at h
      rename_i j
      by_cases a : i.cps.toList < j.cps.toList
      · simp [a] at h
      · by_cases b : j.cps.toList < i.cps.toList
        · simp [a, b] at h
        · rw [PySem.W.str_of_cps (List.le_antisymm (List.not_lt.mp b) (List.not_lt.mp a))]
    · simp [cmp3, rk3] at h
  | .none, _, h, _, _ => by cases h
  | .bool _, _, h, _, _ => by cases h
  | .list _, _, h, _, _ => by cases h
  | .dict _, _, h, _, _ => by cases h
theorem eqL_of_cmp : ∀ (xs ys : List PyData), ordL xs = true → ordL ys = true → cmpL xs ys = .eq → xs = ys
  | [], [], _, _, _ => rfl
  | [], _ :: _, _, _, h => by cases h
  | _ :: _, [], _, _, h => by cases h
  | x :: xs, y :: ys, h1, h2, h => by
    simp only [ordL, Bool.and_eq_true] at h1 h2
    simp only [cmpL] at h
    cases q : cmp3 x y with
    | lt => rw [q] at h; cases h
    | gt => rw [q] at h; cases h
    | eq =>
      rw [q] at h
      rw [eq_of_cmp x y h1.1 h2.1 q, eqL_of_cmp xs ys h1.2 h2.2 h]
end
theorem cmp_self (d : PyData) : cmp3 d d = .eq := by
  have h := swap3 d d
  cases q : cmp3 d d with
  | eq => rfl
  | lt => rw [q] at h; cases h
  | gt => rw [q] at h; cases h
mutual
theorem eq_of_eqv : ∀ (d e : PyData), ord0 d = true → ord0 e = true → PyData.eqv d e = true → d = e
  | .tuple xs, e, h1, h2, h => by
    cases e <;> simp only [ord0, Bool.false_eq_true] at h2
    · simp [PyData.eqv] at h
    · simp [PyData.eqv] at h
    · simp only [PyData.eqv] at h
      rw [eqL_of_eqv xs _ (by simpa [ord0] using h1) h2 h]
  | .int i, e, h1, h2, h => by
    cases e <;> simp only [ord0, Bool.false_eq_true] at h2
    · simp [PyData.eqv] at h
      rw [h]
    · simp [PyData.eqv] at h
    · simp [PyData.eqv] at h
  | .str i, e, h1, h2, h => by
    cases e <;> simp only [ord0, Bool.false_eq_true] at h2
    · simp [PyData.eqv] at h
    · simp [PyData.eqv] at h
      rw [h]
    · simp [PyData.eqv] at h
  | .none, _, h, _, _ => by cases h
  | .bool _, _, h, _, _ => by cases h
  | .list _, _, h, _, _ => by cases h
  | .dict _, _, h, _, _ => by cases h
theorem eqL_of_eqv : ∀ (xs ys : List PyData), ordL xs = true → ordL ys = true → PyData.eqvAll xs ys = true → xs = ys
  | [], [], _, _, _ => rfl
  | [], _ :: _, _, _, h => by simp [PyData.eqvAll] at h
  | _ :: _, [], _, _, h => by simp [PyData.eqvAll] at h
  | x :: xs, y :: ys, h1, h2, h => by
    simp only [ordL, Bool.and_eq_true] at h1 h2
    simp only [PyData.eqvAll, Bool.and_eq_true] at h
    rw [eq_of_eqv x y h1.1 h2.1 h.1, eqL_of_eqv xs ys h1.2 h2.2 h.2]
end
mutual
theorem eqv_self : ∀ (d : PyData), ord0 d = true → PyData.eqv d d = true
  | .tuple xs, h => by
    simp only [PyData.eqv]
    exact eqvL_self xs h
  | .int i, _ => by simp [PyData.eqv]
  | .str i, _ => by simp [PyData.eqv]
  | .none, h => by cases h
  | .bool _, h => by cases h
  | .list _, h => by cases h
  | .dict _, h => by cases h
theorem eqvL_self : ∀ (xs : List PyData), ordL xs = true → PyData.eqvAll xs xs = true
  | [], _ => rfl
  | x :: xs, h => by
    simp only [ordL, Bool.and_eq_true] at h
    simp only [PyData.eqvAll, eqv_self x h.1, eqvL_self xs h.2, Bool.and_self]
end
mutual
theorem cmp_of_ltB : ∀ (d e : PyData) (b : Bool), ord0 d = true → ord0 e = true → ltB d e = some b → b = (cmp3 d e == .lt)
  | .tuple xs, e, b, h1, h2, h => by
    cases e <;> simp only [ord0, Bool.false_eq_true] at h2
    · simp [ltB] at h
    · simp [ltB] at h
    · simp only [ltB] at h
      simp only [cmp3]
      exact cmp_of_ltA xs _ b h1 h2 h
  | .int i, e, b, h1, h2, h => by
    cases e <;> simp only [ord0, Bool.false_eq_true] at h2
    · simp only [ltB, Option.some.injEq] at h
      rename_i j
      rw [← h]
      simp only [cmp3]
      by_cases a : i < j
      · simp [a]
      · by_cases c : j < i <;> simp [a, c]
    · simp [ltB] at h
    · simp [ltB] at h
  | .str i, e, b, h1, h2, h => by
    cases e <;> simp only [ord0, Bool.false_eq_true] at h2
    · simp [ltB] at h
    · simp only [ltB, Option.some.injEq] at h
      rename_i j
      rw [← h]
      simp only [cmp3]
      by_cases a : i.cps.toList < j.cps.toList
      · simp [a]
      · by_cases c : j.cps.toList < i.cps.toList <;> simp [a, c]
    · simp [ltB] at h
  | .none, _, _, h, _, _ => by cases h
  | .bool _, _, _, h, _, _ => by cases h
  | .list _, _, _, h, _, _ => by cases h
  | .dict _, _, _, h, _, _ => by cases h
theorem cmp_of_ltA : ∀ (xs ys : List PyData) (b : Bool), ordL xs = true → ordL ys = true → ltA xs ys = some b → b = (cmpL xs ys == .lt)
  | [], [], b, _, _, h => by
    simp only [ltA, Option.some.injEq] at h
    rw [← h]
    rfl
  | [], _ :: _, b, _, _, h => by
    simp only [ltA, Option.some.injEq] at h
    rw [← h]
    rfl
  | _ :: _, [], b, _, _, h => by
    simp only [ltA, Option.some.injEq] at h
    rw [← h]
    rfl
  | x :: xs, y :: ys, b, h1, h2, h => by
    simp only [ordL, Bool.and_eq_true] at h1 h2
    simp only [cmpL]
    rw [ltA] at h
    by_cases q : PyData.eqv x y = true
    · rw [if_pos q] at h
      have e := eq_of_eqv x y h1.1 h2.1 q
      subst e
      rw [cmp_self]
      exact cmp_of_ltA xs ys b h1.2 h2.2 h
    · rw [if_neg q] at h
      have e := cmp_of_ltB x y b h1.1 h2.1 h
      cases c : cmp3 x y with
      | lt => rw [c] at e; exact e
      | gt => rw [c] at e; exact e
      | eq =>
        have := eq_of_cmp x y h1.1 h2.1 c
        subst this
        exact absurd (eqv_self x h1.1) q
end
/-- sorted by cmp3 -/
def leD3 (d e : PyData) : Bool := !(cmp3 e d == .lt)
theorem sort_one {ds out : List PyData} (h0 : ∀ d ∈ ds, ord0 d = true) (hp : out.Perm ds) (hs : out.Pairwise fun x y => (cmp3 y x == .lt) = false) : out = ds.mergeSort leD3 := by
  have O := swo3
  refine List.Perm.eq_of_pairwise (le := fun x y => leD3 x y = true) (fun a b ha hb h1 h2 => ?_) (hs.imp fun h => by simp [leD3, h]) (List.pairwise_mergeSort (fun a b c h1 h2 => ?_) (fun a b => ?_) ds) (hp.trans (List.mergeSort_perm ds leD3).symm)
  · have a0 := h0 a (hp.mem_iff.mp ha)
    have b0 := h0 b ((List.mergeSort_perm ds leD3).mem_iff.mp hb)
    refine eq_of_cmp a b a0 b0 ?_
    cases c : cmp3 a b with
    | eq => rfl
    | lt => simp [leD3, c] at h2
    | gt =>
      have := swap3 a b
      rw [c] at this
      simp [leD3, this] at h1
  · simp only [leD3, Bool.not_eq_true'] at h1 h2 ⊢
    exact O.tr a b c h1 h2
  · unfold leD3
    cases c : (cmp3 b a == .lt) with
    | false => rfl
    | true =>
      rw [O.asym b a c]
      rfl

/-! the comparison of the sort -/
section
variable {prog : Program} {w : World} {A : Around} {E : Value → Shared → Prop} {s : Shared} {b fin : Bool} {Q : Bool → Shared → Prop}
theorem kat_reads : ∀ (xs ys : List PyData) (vs ws : List Value) (as bs : List Addr) (k : Bool) (i : Nat), ReadsAll s.heap vs xs as → ReadsAll s.heap ws ys bs → ltA xs ys = some k → PyData.canLayAll0 xs = true → PyData.canLayAll0 ys = true →
    A.units + PyData.depthAll xs < cLine → fin = decide (vs.length < ws.length) → ((b && i == 0) = true → ∀ x r y t, xs = x :: r → ys = y :: t → ∃ i j, x = .int i ∧ y = .int j) → Q k s → KatLex prog w A b fin Q (vs.zip ws) i s
  | [], [], _, _, _, _, k, i, ra, rb, h, _, _, _, hf, _, q => by
    cases ra
    cases rb
    simp only [ltA, Option.some.injEq] at h
    rw [← h] at q
    rw [hf]
    exact kat_nil q
  | [], _ :: _, _, _, _, _, k, i, ra, rb, h, _, _, _, hf, _, q => by
    cases ra
    cases rb
    simp only [ltA, Option.some.injEq] at h
    rw [← h] at q
    rw [hf]
    exact kat_nil (by simpa using q)
  | _ :: _, [], _, _, _, _, k, i, ra, rb, h, _, _, _, hf, _, q => by
    cases ra
    cases rb
    simp only [ltA, Option.some.injEq] at h
    rw [← h] at q
    rw [hf]
    exact kat_nil (by simpa using q)
  | x :: xs, y :: ys, _, _, _, _, k, i, ra, rb, h, c1, c2, hu, hf, hi, q => by
    have d1 : x.canLay0 = true ∧ PyData.canLayAll0 xs = true := by simpa [PyData.canLayAll0] using c1
    have d2 : y.canLay0 = true ∧ PyData.canLayAll0 ys = true := by simpa [PyData.canLayAll0] using c2
    have hd : A.units + max x.depth (PyData.depthAll xs) < cLine := by simpa [PyData.depthAll] using hu
    cases ra with
    | cons r rs =>
      cases rb with
      | cons t ts =>
        have e := eqAt_reads x y A s _ _ _ _ r t d1.1 d2.1 (by omega)
        rw [ltA] at h
        rw [List.zip_cons_cons]
        refine kat_cons (e prog w _ _ ?_)
        by_cases z : PyData.eqv x y = true
        · rw [if_pos z] at h
          rw [z]
          refine kat_yes (kat_reads xs ys _ _ _ _ k (i + 1) rs ts h d1.2 d2.2 (by omega) (by rw [hf]; simp) (fun n => ?_) q)
          simp at n
        · rw [if_neg z] at h
          have z' : PyData.eqv x y = false := by simpa using z
          rw [z']
          refine kat_no ?_
          cases hb : (b && i == 0) with
          | true =>
            obtain ⟨m, n, rfl, rfl⟩ := hi hb _ _ _ _ rfl rfl
            cases r
            cases t
            simp only [ltB, Option.some.injEq] at h
            refine oneLt_int ?_
            rw [h]
            exact q
          | false => exact kat_one _ _ (rc_lt x y A s _ _ _ _ k r t h d1.1 d2.1 (by omega) prog w _ _ q)
end
end DnSo
set_option maxHeartbeats 2000000
/-! sorted(xs) -/
namespace DnSo
open PySem PySem.SeqAt PyProof.Rows PySem.W SrtO DnLt
noncomputable def kOf (h : Heap) (v : Value) : PyData := by
  classical
  exact if q : ∃ d as, Reads h v d as then Classical.choose q else .none
theorem kOf_eq {h : Heap} {v : Value} {d : PyData} {as : List Addr} (r : Reads h v d as) : kOf h v = d := by
  unfold kOf
  have q : ∃ d as, Reads h v d as := ⟨d, as, r⟩
  rw [dif_pos q]
  obtain ⟨bs, r2⟩ := Classical.choose_spec q
  exact (Reads.unique r2 _ _ r).1
def isI : PyData → Bool
  | .int _ => true
  | _ => false
def isT : PyData → Bool
  | .tuple _ => true
  | _ => false
/-- a tuple whose first item is such -/
def fst1 (p : PyData → Bool) : PyData → Bool
  | .tuple (x :: _) => p x
  | _ => false
def sortOk (ds : List PyData) : Bool := decide (ds.length ≤ 16777216) && ds.all (fun d => ord0 d && d.canLay0 && decide (d.depth ≤ 8)) && ds.all (fun d => ds.all fun e => (ltB d e).isSome) && (ds.all (fst1 isI) || ds.all (fst1 isT) || ds.all isI)
section
variable {prog : Program} {w : World} {A : Around} {E : Value → Shared → Prop} {s : Shared}
noncomputable def ltK (h : Heap) (v u : Value) : Bool := cmp3 (kOf h v) (kOf h u) == .lt
theorem swoK (h : Heap) : Swo (ltK h) := ⟨fun x y => swo3.asym _ _, fun x y z => swo3.tr _ _ _⟩
theorem katTups_of {h : Heap} (p : PyData → Bool) : ∀ {vs : List Value}, (∀ v ∈ vs, ∃ d as, Reads h v d as ∧ fst1 p d = true) → ∃ fs, KatTups h vs fs ∧ fs.length = vs.length ∧ ∀ f ∈ fs, ∃ x as, Reads h f x as ∧ p x = true
  | [], _ => ⟨[], .nil, rfl, by simp⟩
  | v :: vs, hv => by
    obtain ⟨fs, k1, k2, k3⟩ := katTups_of p (vs := vs) fun u hu => hv u (List.mem_cons_of_mem _ hu)
    obtain ⟨d, as, r, hp⟩ := hv v List.mem_cons_self
    cases d <;> simp only [fst1, Bool.false_eq_true] at hp
    rename_i xs
    cases xs with
    | nil => simp at hp
    | cons x xs =>
      simp only at hp
      cases r with
      | tuple h1 h2 h3 h4 =>
        rename_i a o us n
        cases us with
        | mk ul =>
          cases h4 with
          | cons r1 r2 =>
            rename_i f us2 _ _
            refine ⟨f :: fs, .cons h1 h2 h3 (by simp) k1, by simp [k2], fun g hg => ?_⟩
            rcases List.mem_cons.mp hg with e | e
            · subst e
              exact ⟨x, _, r1, hp⟩
            · exact k3 g e
theorem sortableK {h0 : Heap} {a : Addr} {vs : List Value} {ds : List PyData} (hv : ∀ v ∈ vs, ∃ d as, d ∈ ds ∧ Reads h0 v d as) (ok : sortOk ds = true) (h2 : 2 ≤ vs.length) (hk : ∀ b o, h0.get? b = some o → b ≠ a ∧ s.heap.get? b = some o) (hu : A.units + 20 < cLine) : SortableO prog w A s a vs (ltK h0) := by
  unfold sortOk at ok
  simp only [Bool.and_eq_true, List.all_eq_true, decide_eq_true_eq, Bool.or_eq_true] at ok
  obtain ⟨⟨⟨_, hd⟩, hc⟩, hkind⟩ := ok
  intro h' keep
  have ext : ∀ b o, h0.get? b = some o → h'.get? b = some o := fun b o e => keep b o (hk b o e).1 (hk b o e).2
  have cmpT : ∀ b : Bool, (∀ d ∈ ds, isT d = true) → (b = true → ∀ d ∈ ds, fst1 isI d = true) → Cmp prog w A { s with heap := h' } (tuples' b) (fun p => p.1 ∈ vs) (lt2 (ltK h0)) := by
    intro b hT hb p q hm hm'
    obtain ⟨d, as, hd1, r1⟩ := hv _ hm
    obtain ⟨e, bs, hd2, r2⟩ := hv _ hm'
    show wpAny (model prog w) A (keyLt' (tuples' b) p.1 q.1) (fun r s' => s' = { s with heap := h' } ∧ r = ltK h0 p.1 q.1) (fun _ _ => False) { s with heap := h' }
    obtain ⟨k, hk1⟩ := Option.isSome_iff_exists.mp (hc d hd1 e hd2)
    have e1 : ltK h0 p.1 q.1 = k := by
      unfold ltK
      rw [kOf_eq r1, kOf_eq r2]
      exact (cmp_of_ltB d e k (hd d hd1).1.1 (hd e hd2).1.1 hk1).symm
    rw [e1]
    have r1' := Reads.keeps ext r1
    have r2' := Reads.keeps ext r2
    have t1 := hT d hd1
    have t2 := hT e hd2
    have c1 := (hd d hd1).1.2
    have c2 := (hd e hd2).1.2
    have dp := (hd d hd1).2
    have b1 : b = true → fst1 isI d = true ∧ fst1 isI e = true := fun z => ⟨hb z d hd1, hb z e hd2⟩
    cases d <;> simp only [isT, Bool.false_eq_true] at t1
    cases e <;> simp only [isT, Bool.false_eq_true] at t2
    rename_i xs ys
    rw [ltB] at hk1
    generalize p.1 = pv at r1' ⊢
    generalize q.1 = qv at r2' ⊢
    cases r1' with
    | tuple h1 h2 h3 h4 =>
      cases r2' with
      | tuple m1 m2 m3 m4 =>
        refine kat_lt h1 h3 m1 m3 ?_
        refine kat_reads xs ys _ _ _ _ k 0 h4 m4 hk1 (by simpa [PyData.canLay0] using c1) (by simpa [PyData.canLay0] using c2) ?_ (by simp) (fun z x r y t ex ey => ?_) ⟨rfl, rfl⟩
        · have : PyData.depthAll xs + 1 ≤ 8 := by simpa [PyData.depth] using dp
          omega
        · subst ex ey
          have zb : b = true := by simpa using z
          obtain ⟨i1, i2⟩ := b1 zb
          simp only [fst1] at i1 i2
          cases x <;> simp only [isI, Bool.false_eq_true] at i1
          cases y <;> simp only [isI, Bool.false_eq_true] at i2
          exact ⟨_, _, rfl, rfl⟩
  have reads : ∀ p : PyData → Bool, (∀ d ∈ ds, p d = true) → ∀ v ∈ vs, ∃ d as, Reads h' v d as ∧ p d = true := fun p hp v hm => by
    obtain ⟨d, as, hd1, r1⟩ := hv v hm
    exact ⟨d, as, Reads.keeps ext r1, hp d hd1⟩
  rcases hkind with (hI | hT) | hN
  · obtain ⟨fs, k1, k2, k3⟩ := katTups_of isI (reads _ hI)
    refine ⟨_, fun Q E hq => kat_kind (T := .type "int") k1 (by omega) (fun f hf => ?_) (by rfl) hq, cmpT _ (fun d hd => ?_) fun _ => hI⟩
    · obtain ⟨x, as, r, hx⟩ := k3 f hf
      cases x <;> simp only [isI, Bool.false_eq_true] at hx
      cases r
      exact Looks.now
    · have := hI d hd
      cases d <;> simp only [fst1, Bool.false_eq_true] at this
      rfl
  · obtain ⟨fs, k1, k2, k3⟩ := katTups_of isT (reads _ hT)
    refine ⟨_, fun Q E hq => kat_kind (T := .type "tuple") k1 (by omega) (fun f hf => ?_) (by rfl) hq, cmpT _ (fun d hd => ?_) fun z => ?_⟩
    · obtain ⟨x, as, r, hx⟩ := k3 f hf
      cases x <;> simp only [isT, Bool.false_eq_true] at hx
      cases r with
      | tuple h1 h2 h3 h4 =>
        have := show Looks (model prog w) h' (typeOf (.ref _)) _ from (Looks.ld h1).andThen .now
        rw [h2] at this
        exact this
    · have := hT d hd
      cases d <;> simp only [fst1, Bool.false_eq_true] at this
      rfl
    · exact absurd z (by decide +kernel)
  · have hI : ∀ v ∈ vs, ∃ (i : Int) (t : Tok), v = .int i t := fun v hm => by
      obtain ⟨d, as, r, hx⟩ := reads _ hN v hm
      cases d <;> simp only [isI, Bool.false_eq_true] at hx
      cases r
      exact ⟨_, _, rfl⟩
    have hIs : IntsAre vs (vs.map iv) := ints_iv hI
    refine ⟨oneType', fun Q E hq => ?_, fun p q hm hm' => ?_⟩
    · match vs, hIs, h2 with
      | v1 :: v2 :: rest, hI, _ =>
        rw [keyKind_ints hI]
        exact wpAny_pure hq
      | [], _, h => exact absurd h (by decide)
      | [v], _, h => exact absurd h (by simp)
    · obtain ⟨d, as, hd1, r1⟩ := hv _ hm
      obtain ⟨e, bs, hd2, r2⟩ := hv _ hm'
      have t1 := hN d hd1
      have t2 := hN e hd2
      show wpAny (model prog w) A (keyLt' oneType' p.1 q.1) (fun r s' => s' = { s with heap := h' } ∧ r = ltK h0 p.1 q.1) (fun _ _ => False) { s with heap := h' }
      have e1 : ltK h0 p.1 q.1 = (cmp3 d e == .lt) := by
        unfold ltK
        rw [kOf_eq r1, kOf_eq r2]
      rw [e1]
      cases d <;> simp only [isI, Bool.false_eq_true] at t1
      cases e <;> simp only [isI, Bool.false_eq_true] at t2
      rename_i i j
      generalize p.1 = pv at r1 ⊢
      generalize q.1 = qv at r2 ⊢
      cases r1
      cases r2
      rw [keyLt'_oneType]
      refine oneLt_int ⟨rfl, ?_⟩
      exact cmp_of_ltB (.int i) (.int j) _ rfl rfl rfl
end
end DnSo
namespace Dn
open PySem PySem.Spec PyProof.Rows L2 DnSo
inductive Tri (K : PySem.W.Frag) (F : Hp) : List V → List Value → List D → Prop
  | nil : Tri K F [] [] []
  | cons {x : V} {u : Value} {d : D} {xs : List V} {us : List Value} {ds : List D} (h1 : RelV x u) (h2 : Rp K F x d) (h3 : Tri K F xs us ds) : Tri K F (x :: xs) (u :: us) (d :: ds)
theorem tri_of {K : PySem.W.Frag} {F : Hp} : ∀ {xs : List V} {us : List Value} {ds : List D}, RpAll K F xs ds → Vals xs us → Tri K F xs us ds
  | _, _, _, .nil, h => by cases h; exact .nil
  | _, _, _, .cons a b, h => by
    cases h with
    | cons c d => exact .cons c a (tri_of b d)
theorem Tri.vals {K : PySem.W.Frag} {F : Hp} {xs : List V} {us : List Value} {ds : List D} (t : Tri K F xs us ds) : Vals xs us := by
  induction t with
  | nil => exact .nil
  | cons a b c ih => exact .cons a ih
theorem Tri.all {K : PySem.W.Frag} {F : Hp} {xs : List V} {us : List Value} {ds : List D} (t : Tri K F xs us ds) : RpAll K F xs ds := by
  induction t with
  | nil => exact .nil
  | cons a b c ih => exact .cons b ih
theorem Tri.perm {K : PySem.W.Frag} {F : Hp} {us' us : List Value} (p : us.Perm us') : ∀ {xs : List V} {ds : List D}, Tri K F xs us ds → ∃ xs' ds', Tri K F xs' us' ds' ∧ ds'.Perm ds := by
  induction p with
  | nil => exact fun t => ⟨_, _, t, .refl _⟩
  | cons u p ih =>
    intro xs ds t
    cases t with
    | cons a b c =>
      obtain ⟨xs', ds', t', q⟩ := ih c
      exact ⟨_, _, .cons a b t', q.cons _⟩
  | swap u v l =>
    intro xs ds t
    cases t with
    | cons a b c =>
      cases c with
      | cons a' b' c' => exact ⟨_, _, .cons a' b' (.cons a b c'), .swap _ _ _⟩
  | trans p q ih1 ih2 =>
    intro xs ds t
    obtain ⟨xs', ds', t', q'⟩ := ih1 t
    obtain ⟨xs2, ds2, t2, q2⟩ := ih2 t'
    exact ⟨_, _, t2, q2.trans q'⟩
theorem Tri.mem {K : PySem.W.Frag} {F : Hp} {xs : List V} {us : List Value} {ds : List D} (t : Tri K F xs us ds) : ∀ u ∈ us, ∃ x d, d ∈ ds ∧ RelV x u ∧ Rp K F x d := by
  induction t with
  | nil => simp
  | cons a b c ih =>
    intro u hu
    rcases List.mem_cons.mp hu with e | e
    · subst e
      exact ⟨_, _, List.mem_cons_self, a, b⟩
    · obtain ⟨x, d, h1, h2⟩ := ih u e
      exact ⟨x, d, List.mem_cons_of_mem _ h1, h2⟩
theorem Tri.map {K : PySem.W.Frag} {F : Hp} {k : Value → D} {xs : List V} {us : List Value} {ds : List D} (t : Tri K F xs us ds) : (∀ x u d, d ∈ ds → RelV x u → Rp K F x d → k u = d) → us.map k = ds := by
  induction t with
  | nil => exact fun _ => rfl
  | cons a b c ih =>
    intro h
    rw [List.map_cons, h _ _ _ List.mem_cons_self a b, ih fun x u d hd => h x u d (List.mem_cons_of_mem _ hd)]
def sortF : List D → Option D
  | [.list xs] => if sortOk xs = true then some (.list (xs.mergeSort leD3)) else none
  | _ => none
section
variable {X : Cx}
theorem call_sortD (hu : X.A.units + 65 < cLine) : CallR X (.builtin "sorted") (rFn X.K sortF) := by
  intro pins s σ H xs us Q I rx h
  obtain ⟨F, ds, r, sf, hd, ef, k⟩ := h
  unfold sortF at ef
  split at ef
  · rename_i es
    split at ef
    · rename_i ok
      cases ef
      obtain ⟨v, rfl, hv⟩ := da1 hd
      cases hv with
      | @lst a ws _ h1 d1 =>
        obtain ⟨its, rv, hl, hz⟩ := I.list (sf.seq h1)
        rw [Vals.ref1 rx]
        have T : Tri X.K F ws its es := tri_of d1 rv
        have ok' := ok
        unfold sortOk at ok'
        simp only [Bool.and_eq_true, List.all_eq_true, decide_eq_true_eq] at ok'
        obtain ⟨⟨⟨hlen0, hdd⟩, _⟩, _⟩ := ok'
        have rd : ∀ x u d, d ∈ es → RelV x u → Rp X.K F x d → ∃ as, Reads s.heap u d as := fun x u d hd hr hp => Dp.reads I d x u (rp_dp (dp_mono sf _ _ hp) (hdd d hd).1.2) hr
        refine SrtO.sorted_ord (swoK s.heap) hl.isList (by rw [← rv.length]; exact hz) (fun h2 h₁ a' ha' hk => ?_) fun out h1 h2 => ?_
        · refine sortableK (ds := es) (fun v hm => ?_) ok h2 hk (by show X.A.units + 1 + 1 + 20 < cLine; omega)
          obtain ⟨x, d, h3, h4, h5⟩ := T.mem v hm
          obtain ⟨as, h6⟩ := rd x v d h3 h4 h5
          exact ⟨d, as, h3, h6⟩
        · obtain ⟨xs', ds', T', pm⟩ := T.perm h2.perm.symm
          have ek : out.map (kOf s.heap) = ds' := T'.map fun x u d hd hr hp => by
            obtain ⟨as, h6⟩ := rd x u d (pm.mem_iff.mp hd) hr hp
            exact kOf_eq h6
          have es' : ds' = es.mergeSort leD3 := sort_one (fun d hd => (hdd d hd).1.1) pm (by
            rw [← ek]
            exact List.pairwise_map.mpr h1)
          obtain ⟨ep, he'⟩ := PyProof.Rows.sortedAll_at s.heap its out.toArray
          have hlen : xs'.length ≤ sizeLine := by
            rw [line_eq, da_len T'.all, pm.length_eq]
            exact hlen0
          have hp : H (s.heap.objs.size + 1) = none := I.hok.fresh (Nat.le_succ _)
          rw [← es'] at k
          exact ⟨.ref _, upd H (s.heap.objs.size + 1) (.lst xs'), I.laid (t' := s.toks) (fun _ _ => PyProof.Rows.sortedAll_old) (Nat.le_succ _) ⟨hlen, out, ep, T'.vals, he'⟩, rfl, k _ _ _ (Grow.own sf hp) (own_new sf hp T'.all) hp⟩
    · cases ef
  · cases ef
end
end Dn
set_option maxHeartbeats 2000000
/-! repr of data; the law's own body where nothing is being shown -/
namespace Dn
open PySem PySem.Spec PyProof.Rows L2
def reprOk (d : D) : Bool := d.canLay0 && decide (d.depth ≤ 8) && PyData.showable d && PyData.leavesShort 13 d && decide (d.weight ≤ 2 ^ 20)
def reprF : List D → Option D
  | [.list xs] => if reprOk (.list xs) = true then some (.str (PyData.list xs).shown) else none
  | [.tuple xs] => if reprOk (.tuple xs) = true then some (.str (PyData.tuple xs).shown) else none
  | _ => none
mutual
theorem noDict_of : ∀ d : D, d.canLay0 = true → d.hasDict = false
  | .none, _ => rfl
  | .bool _, _ => rfl
  | .int _, _ => rfl
  | .str _, _ => rfl
  | .list xs, h => by
    rw [PyData.hasDict]
    exact noDict_all xs (by simpa [PyData.canLay0] using h)
  | .tuple xs, h => by
    rw [PyData.hasDict]
    exact noDict_all xs (by simpa [PyData.canLay0] using h)
  | .dict _, h => by simp [PyData.canLay0] at h
theorem noDict_all : ∀ ds : List D, PyData.canLayAll0 ds = true → PyData.hasDictAll ds = false
  | [], _ => rfl
  | d :: ds, h => by
    have c : d.canLay0 = true ∧ PyData.canLayAll0 ds = true := by simpa [PyData.canLayAll0] using h
    rw [PyData.hasDictAll, noDict_of d c.1, noDict_all ds c.2]
    rfl
end
section
variable {X : Cx}
theorem repr_ref {pins : List (Addr × Obj)} {s : Shared} {σ : L2.St} {F H : Hp} {Q : VK} {d : D} {a : Addr} (hg : X.A.guards = some []) (hu : X.A.units + 65 < cLine) (I : Inv X pins σ H s) (sf : Same F H) (hp : Rp X.K F (.ref a) d) (ok : reprOk d = true)
    (k : ∀ v F' H', Grow F H F' H' → Rp X.K F' v (.str d.shown) → Q v H') : wpAny (model X.prog X.w) X.A (call (.builtin "repr") [.ref a]) (fun u s' => ∃ v H', Inv X pins σ H' s' ∧ RelV v u ∧ Q v H') X.xe s := by
  unfold reprOk at ok
  simp only [Bool.and_eq_true, decide_eq_true_eq] at ok
  obtain ⟨⟨⟨⟨c1, c2⟩, c3⟩, c4⟩, c5⟩ := ok
  obtain ⟨as, r⟩ := Dp.reads I d (.ref a) (.ref a) (rp_dp (dp_mono sf _ _ hp) c1) rfl
  refine repr_of_reads' r c3 (fun z => ?_) hg (by omega) (fun _ _ e => e) (fun h' u tk hk => ?_) (PyData.shown_fits (by decide) (by decide) c4 c5)
  · rw [noDict_of d c1] at z
    cases z
  · exact ⟨.str d.shown, H, I.kept (t' := tk) hk, ⟨_, rfl⟩, k _ F H (Grow.refl sf) (.str _)⟩
theorem call_reprD (hg : X.A.guards = some []) (hu : X.A.units + 65 < cLine) : CallR X (.builtin "repr") (rPn X.K reprF) := by
  intro pins s σ H xs us Q I rx h
  obtain ⟨F, ds, r, sf, hd, ef, k⟩ := h
  unfold reprF at ef
  split at ef
  · split at ef
    · rename_i ok
      cases ef
      obtain ⟨v, rfl, hv⟩ := da1 hd
      have hv' := hv
      cases hv' with
      | lst h1 d1 =>
        rw [Vals.ref1 rx]
        exact repr_ref hg hu I sf hv ok k
    · cases ef
  · split at ef
    · rename_i ok
      cases ef
      obtain ⟨v, rfl, hv⟩ := da1 hd
      have hv' := hv
      cases hv' with
      | tup h1 d1 =>
        rw [Vals.ref1 rx]
        exact repr_ref hg hu I sf hv ok k
    · cases ef
  · cases ef
theorem bb_repr : bootBuiltins "repr" = some (.builtin "repr") := by decide +kernel
theorem bb_sorted : bootBuiltins "sorted" = some (.builtin "sorted") := by decide +kernel
theorem bb_sum : bootBuiltins "sum" = some (.builtin "sum") := by decide +kernel
end

/-! ### the law's own body, where nothing is being shown -/
section
variable {P : Program} {w : World} {K : PySem.W.Frag} {mg mb : Str → Option Value}
/-- the script as the layer sees it -/
theorem script_st {s₁ : Shared} {a : Addr} {vs : List Value} {ns : List Int} (KX : K.In s₁.heap) (ha : s₁.heap.get? a = some { cls := .type "list", data := .seq vs.toArray }) (hi : IntsAre vs ns) (hl : ns.length ≤ sizeLine) :
    ∃ H : Hp, Only H ∧ SqL K H a (ns.map V.int) ∧ HOk P w H s₁.heap ∧ (∀ b, H b ≠ none → b = a) ∧ (H a ≠ none → K.lookup a = none) := by
  have rv := vals_ints hi
  have lenV := hi.length
  by_cases hk : K.lookup a = none
  · have ev : ∀ {b : Addr} {u : HO}, (if b = a then some (HO.frz { cls := .type "list", data := .seq vs.toArray } (.lst (ns.map V.int))) else none) = some u → b = a ∧ u = .frz { cls := .type "list", data := .seq vs.toArray } (.lst (ns.map V.int)) := fun {b u} h => by
      by_cases z : b = a
      · rw [if_pos z] at h
        exact ⟨z, (Option.some.inj h).symm⟩
      · rw [if_neg z] at h
        cases h
    refine ⟨fun b => if b = a then some (.frz { cls := .type "list", data := .seq vs.toArray } (.lst (ns.map V.int))) else none, fun b => ?_, .inl (.inr ⟨_, if_pos rfl⟩), fun b u z => ?_, fun b z => ?_, fun _ => hk⟩
    · by_cases z : b = a
      · exact .inr ⟨_, _, if_pos z⟩
      · exact .inl (if_neg z)
    · obtain ⟨rfl, rfl⟩ := ev z
      exact ⟨ha, by rw [List.length_map]; exact hl, vs, _, rv, ha⟩
    · by_cases y : b = a
      · exact y
      · exact absurd (if_neg y) z
  · obtain ⟨o, hk⟩ := Option.ne_none_iff_exists'.mp hk
    have e := KX a o hk
    rw [ha] at e
    cases e
    exact ⟨fun _ => none, fun _ => .inl rfl, .inr ⟨_, vs.toArray, _, hk, rfl, rfl, rfl, by rw [List.size_toArray, lenV]; exact hl, by simpa using rv⟩, fun b u z => (by cases z), fun b z => absurd rfl z, fun z => absurd rfl z⟩
theorem law_body {k : Nat} {f a : Addr} {fd : FuncData} {st : Stmt} {N : List Str} {g : Sd} {s₁ : Shared} {vs : List Value} {ns : List Int}
    (Fn : Fun K "law" "law" st f fd) (S : FnScope N ["script"] (defScope st)) (KX : K.In s₁.heap) (hns : s₁.heap.Ns mainGlobals mg) (hb : s₁.heap.Ns builtinsNs mb) (hbb : ∀ x : Str, x ≠ "__name__" → mb x = bootBuiltins x) (hlim : s₁.heap.NoLimit) (hg : s₁.gens = #[])
    (ha : s₁.heap.get? a = some { cls := .type "list", data := .seq vs.toArray }) (hi : IntsAre vs ns) (hl : ns.length ≤ 63) (hr : Room (k + 1) callerA) (hbind : ∀ (s : Shared) (u : Value), BindsTo s fd ⟨[u], []⟩ [("script", u)])
    (body : ∀ (base : Heap) (cdv : Value) (s : Shared) (H : Hp) (E : XK), K.In base → base.Ns mainGlobals mg → DSs (cxOf CX0 P w K mg base N "law" (defScope st) f cdv callerA [] s H E).nox (defBody st) g)
    (ok : runV N.length g [.list (ns.map PyData.int)] = some (.bool true)) :
    codeAny (model P w) callerA (.call (.ref f) ⟨[.ref a], []⟩) (fun r s' => r = .ok (.ret (.bool true)) ∧ OldK s₁.heap s'.heap ∧ s'.os = s₁.os ∧ AllBare s'.gens) s₁ := by
  obtain ⟨H, hO, hS, hok, hA, hK⟩ := script_st (P := P) (w := w) KX ha hi (Nat.le_trans hl (by decide))
  have base_of : ∀ {b : Addr} {o : Obj}, s₁.heap.get? b = some o → H b = none → (hidT s₁.heap H).get? b = some o := fun e n => hidT_get e n
  have noA : ∀ {b : Addr} {o : Obj} {es : Array DictEntry} {ep : Nat}, s₁.heap.get? b = some o → o.data = .dict es ep → H b = none := fun {b o es ep} e d => by
    by_cases q : H b = none
    · exact q
    · have e' := hA b q
      subst e'
      rw [ha] at e
      cases e
      cases d
  have nsK : ∀ {b : Addr} {m : Str → Option Value}, s₁.heap.Ns b m → (hidT s₁.heap H).Ns b m := fun {b m} ⟨o, es, ep, e, d, r⟩ => ⟨o, es, ep, base_of e (noA e d), d, r⟩
  have hKb : K.In (hidT s₁.heap H) := fun b o e => base_of (KX b o e) (by
    by_cases q : H b = none
    · exact q
    · have e' := hA b q
      subst e'
      rw [hK q] at e
      cases e)
  have hM : Mod K mg (hidT s₁.heap H) := ⟨hKb, nsK hns, ⟨mb, nsK hb, hbb⟩, let ⟨mc, h1, h2⟩ := hlim; ⟨mc, nsK h1, h2⟩⟩
  have e0 : Env0 P w K mg (hidT s₁.heap H) callerA [] s₁ H := ⟨rfl, hM, fun b o e => of_hidT e, Nat.le_of_eq (hidT_size _ _), trivial, fun b hb => absurd (show b ∈ ([] : List Addr) from hb) (by simp), hok, .of_eq hg⟩
  obtain ⟨oc, od, kV, doc, pm, an, cdv, ct, osl, rfl, lk, hcd⟩ := Fn.ex
  have hkind : ∀ y ∈ ([("script" : Str)] : List Str).zip [Value.ref a], (defScope st).names.lookup y.1 = some .local ∨ ((defScope st).names.lookup y.1 = some .cell ∧ ((cellsFrom (s₁.heap.objs.size + 1) (defScope st).names []).lookup y.1).isSome = true) := fun ⟨n, v⟩ hy => by
    rcases S.par n (List.of_mem_zip hy).1 with q | q
    · exact .inl q
    · exact .inr ⟨q, PySem.W.cellsFrom_some _ _ _ (.inl q)⟩
  have hbody := body (hidT s₁.heap H) cdv s₁ H (fun _ _ _ => False) hKb (nsK hns)
  have q0 : tDS K g { nx := fun _ _ => False, rt := fun v _ => v = V.bl true } (L2.start N [.ref a]) H := by
    obtain ⟨⟨fl, ρ'⟩, e1, e2⟩ := bind_some ok
    refine ⟨H, envV N.length [.list (ns.map PyData.int)], fl, ρ', st_vals (Same.refl H) (.cons (.lst hS (da_ints ns)) .nil), e1, fun σ' F' H' p s' => ?_⟩
    cases fl with
    | nx => cases e2
    | ret d =>
      cases e2
      exact fun v rv => by
        cases rv
        rfl
    | rof d => cases e2
    | brk => cases e2
    | cnt => cases e2
  refine codeAny_mono (R := CR CX0 [] P w H s₁ (fun v _ => v = .bl true) fun _ _ _ => False) ?_ fun r s' h => ?_
  · refine codeAny_call_function hr.depth (KX _ _ lk) rfl S.co S.gen rfl (PySem.W.codeRec_of KX hcd) (hbind s₁ (.ref a) _ _ _ _ ?_)
    refine wpAny_newFunctionEnv_cells S.kind hkind fun env he s1 x => ?_
    subst he
    refine ⟨hlim.keeps x.toInCall.keep, codeAny_func ?_⟩
    have I := inv_start (CX := CX0) (E := fun _ _ _ => False) (us := [.ref a]) (vs := [.ref a]) S hr.hd e0 rfl (.cons rfl .nil) x
    refine wpAny_mono (hbody.nox.run [] s1 (L2.start N [.ref a]) H _ I q0) (fun fl s' hs => ?_) fun e s' hs => hs
    cases fl with
    | next =>
      obtain ⟨_, _, _, q⟩ := hs
      exact q.elim
    | brk =>
      obtain ⟨_, _, _, q⟩ := hs
      exact False.elim q
    | cont =>
      obtain ⟨_, _, _, q⟩ := hs
      exact False.elim q
    | ret u =>
      obtain ⟨v, σ', H', J, rv, q⟩ := hs
      exact ⟨v, H', J.os, J.bare, J.base, J.hok, rv, q⟩
  · cases r with
    | error e => exact (show False from h).elim
    | ok fl =>
      cases fl with
      | next => exact False.elim h
      | brk => exact False.elim h
      | cont => exact False.elim h
      | ret u =>
        obtain ⟨v, H', os, bare, un, hok', rv, q⟩ := h
        have q' : v = .bl true := q
        subst q'
        obtain rfl : u = Value.bool true := rv
        refine ⟨rfl, OldK.of_keep fun b o e => ?_, os, bare⟩
        by_cases z : H b = none
        · exact un.keep b o e z (by intro y; exact absurd (show b ∈ ([] : List Addr) from y) (by simp)) (by simp)
        · rcases hO b with y | ⟨ob, xs, y⟩
          · exact absurd y z
          · have z2 := un.frzs b ob _ y
            obtain ⟨e1, _⟩ := hok b _ y
            obtain ⟨e2, _⟩ := hok' b _ z2
            rw [e] at e1
            cases e1
            exact e2
/-- the last row: a law whose own body is read where nothing is being shown -/
theorem walk_body {l : PySem.W.OpenLaw} {k : Nat} {q : Program} {loose : List Str} {XP : (Str → Option Value) → Heap → Prop} {YP : World → Heap → Prop} {d : DefRec} {K : Params → PySem.W.Frag} {st : Stmt} {N : List Str} {g : Sd}
    (hn : l.most = some 63) (hdf : d.params.defaults = []) (hr : Room (k + 1) callerA) (hY : ∀ (w : World) (h : Heap), YP w h → (K w.params).In h) (S : FnScope N ["script"] (defScope st))
    (F : ∀ (w : World) (mg : Str → Option Value) (fa : Addr) (h : Heap), (K w.params).In h → h.Ns mainGlobals mg → mg d.name = some (.ref fa) → ∃ fd : FuncData, Fun (K w.params) "law" "law" st fa fd ∧ (∀ (s : Shared) (u : Value), BindsTo s fd ⟨[u], []⟩ [("script", u)]) ∧
      ∀ (base : Heap) (cdv : Value) (s : Shared) (H : Hp) (E : XK), (K w.params).In base → base.Ns mainGlobals mg → DSs (cxOf CX0 l.prog w (K w.params) mg base N "law" (defScope st) fa cdv callerA [] s H E).nox (defBody st) g)
    (ok : ∀ ns : List Int, ns.length ≤ 63 → runV N.length g [.list (ns.map PyData.int)] = some (.bool true)) : PySem.W.WalkO q loose XP YP l.row.toRowW d [] (fun f vs => PySem.call f vs) := by
  refine Att.attach_call hn hdf fun w s₀ s₁ mg mb fa o pm cd doc a vs ns G Y ho hd hcd hmg hobj hints hlen hg => ?_
  have KX := hY w _ Y
  obtain ⟨fd, hF, hb, hB⟩ := F w mg fa _ KX G.T.g hmg
  exact law_body hF S KX G.T.g G.T.b G.T.builtins G.T.nolimit hg hobj hints hlen hr hb hB (ok ns hlen)
end
end Dn
set_option maxHeartbeats 2000000
/-! comparisons with a list of one's own, reversed, sums -/
namespace Dn
open PySem PySem.Spec PyProof.Rows L2 RT
section
variable {X : Cx} {tg e a b : Expr} {pos p py : Pos} {x y : Str}
/-- an operation on a list of one's own and a datum: what comes of it is no reference -/
def gOpBL (f : D → D → Option D) (i : Nat) (g : Md D) : Md D := fun ρ => (peek ρ i).bind fun _ => (g ρ).bind fun p => (peek p.2 i).bind fun d => (f d p.1).bind fun r => if flatD r = true then some (r, p.2) else none
theorem opBL_q {f : D → D → Option D} {i : Nat} {g : Md D} {σ : L2.St} {H : Hp} {Q : VK} (q : tD X.K (gOpBL f i g) σ H Q) : tOp (rP2 X.K f) (tVar i) (tD X.K g) σ H Q := by
  obtain ⟨F, ρ, r, ρ', s, eg, k⟩ := q
  obtain ⟨d0, e0, eg⟩ := bind_some eg
  obtain ⟨⟨c, ρ1⟩, e1, eg⟩ := bind_some eg
  obtain ⟨d, e2, eg⟩ := bind_some eg
  obtain ⟨r', e3, eg⟩ := bind_some eg
  simp only at e2 e3 eg
  split at eg
  · rename_i fl
    cases eg
    obtain ⟨v, ev, _⟩ := peek_dp s e0
    refine ⟨v, ev, F, ρ, c, _, s, e1, fun w F1 H1 p1 s1 r1 => ?_⟩
    obtain ⟨v', ev', rv⟩ := peek_dp s1 e2
    rw [ev] at ev'
    cases ev'
    refine ⟨H1, d, c, r, Same.refl _, rv, dp_mono s1.sub _ _ r1, e3, fun u F2 H2 gr r2 => ?_⟩
    have gr' : Grow F1 H1 F1 H2 := ⟨Same.refl _, gr.hh, s1.sub.trans gr.hh, fun _ _ _ => rfl⟩
    exact k u F1 H2 (p1.trans (gr'.stp _ _)) (s1.grow gr') (flat_dp r2 fl)
  · cases eg
theorem db_cmpL {op : CmpOp} {f : D → D → Option D} (i : Nat) {g : Md D} (ho : OpR X (compareOp op) (rP2 X.K f)) (hb : DE X b g) (hm : behindInMarks op b = false) (hN : X.N[i]? = some y := by rfl) (hy : Vis X.env.scope y := by first | exact Or.inl rfl | exact Or.inr (Or.inl rfl) | exact Or.inr (Or.inr rfl))
    (hdy : (y == ("__debug__" : Str)) = false := by decide) (hcd : (y == ("__classdict__" : Str)) = false := by decide) : DE X (.Compare (.Name y py) [op] [b] pos) (gOpBL f i g) :=
  pe_imp (pe_cmpR ho (pe_var hN hy hdy hcd) hb hm) fun _ _ _ q => opBL_q q
theorem dbt_cmpL {op : CmpOp} {f : D → D → Option D} (i : Nat) {g : Md D} (ho : OpR X (compareOp op) (rP2 X.K f)) (hb : DE X b g) (hm : behindInMarks op b = false) (hN : X.N[i]? = some y := by rfl) (hy : Vis X.env.scope y := by first | exact Or.inl rfl | exact Or.inr (Or.inl rfl) | exact Or.inr (Or.inr rfl))
    (hdy : (y == ("__debug__" : Str)) = false := by decide) (hcd : (y == ("__classdict__" : Str)) = false := by decide) : DT X (.Compare (.Name y py) [op] [b] pos) (gTst (gOpBL f i g)) :=
  pt_imp (pt_cmpR ho (pe_var hN hy hdy hcd) hb hm) fun σ H Q q => opBL_q (tst_q q)

theorem dbt_in (i : Nat) {g : Md D} (hu : X.A.units + 65 < cLine) (ha : DE X a g) (hN : X.N[i]? = some y := by rfl) (hy : Vis X.env.scope y := by first | exact Or.inl rfl | exact Or.inr (Or.inl rfl) | exact Or.inr (Or.inr rfl)) (hdy : (y == ("__debug__" : Str)) = false := by decide) (hcd : (y == ("__classdict__" : Str)) = false := by decide) (hm : behindInMarks .In (.Name y py) = false := by rfl) : DT X (.Compare a [.In] [.Name y py] pos) (gTst (gInB false i g)) :=
  pt_imp (pt_cmpR ((op_inD hu).or op_in_seq) ha (pe_var hN hy hdy hcd) hm) fun σ H Q q => by
    have q := tst_q q
    obtain ⟨F, ρ, d, ρ', s, eg, k⟩ := q
    obtain ⟨⟨d1, ρ1⟩, e1, eg1⟩ := bind_some eg
    obtain ⟨e, e2, eg2⟩ := bind_some eg1
    obtain ⟨b, e3, eg3⟩ := bind_some eg2
    cases eg3
    refine ⟨F, ρ, d1, _, s, e1, fun v F1 H1 p1 s1 r1 => ?_⟩
    obtain ⟨w, ew, rw'⟩ := peek_dp s1 e2
    exact ⟨w, ew, in_any hu (dp_mono s1.sub _ _ r1) rw' e3 (k _ F1 H1 p1 s1 (.bl _))⟩
theorem dbt_nin (i : Nat) {g : Md D} (hu : X.A.units + 65 < cLine) (ha : DE X a g) (hN : X.N[i]? = some y := by rfl) (hy : Vis X.env.scope y := by first | exact Or.inl rfl | exact Or.inr (Or.inl rfl) | exact Or.inr (Or.inr rfl)) (hdy : (y == ("__debug__" : Str)) = false := by decide) (hcd : (y == ("__classdict__" : Str)) = false := by decide) (hm : behindInMarks .NotIn (.Name y py) = false := by rfl) : DT X (.Compare a [.NotIn] [.Name y py] pos) (gTst (gInB true i g)) :=
  pt_imp (pt_cmpR ((op_notInD hu).or op_notIn_seq) ha (pe_var hN hy hdy hcd) hm) fun σ H Q q => by
    have q := tst_q q
    obtain ⟨F, ρ, d, ρ', s, eg, k⟩ := q
    obtain ⟨⟨d1, ρ1⟩, e1, eg1⟩ := bind_some eg
    obtain ⟨e, e2, eg2⟩ := bind_some eg1
    obtain ⟨b, e3, eg3⟩ := bind_some eg2
    cases eg3
    refine ⟨F, ρ, d1, _, s, e1, fun v F1 H1 p1 s1 r1 => ?_⟩
    obtain ⟨w, ew, rw'⟩ := peek_dp s1 e2
    exact ⟨w, ew, nin_any hu (dp_mono s1.sub _ _ r1) rw' e3 (k _ F1 H1 p1 s1 (.bl _))⟩

/-! reversed -/
def revOf (d : D) : Option (List D) := match d with
  | .list xs => some xs.reverse
  | .tuple xs => some xs.reverse
  | _ => none
def gReve (g : Md D) : Md (List D) := fun ρ => (g ρ).bind fun p => (revOf p.1).bind fun ds => some (ds, p.2)
theorem rev_get {α : Type} {l : List α} {i : Nat} (h : i < l.length) : l.reverse[i]? = l[l.length - 1 - i]? := List.getElem?_reverse h
theorem it_rev {K : PySem.W.Frag} {F : Hp} {a : Addr} {vs : List V} {ds : List D} (h : SqL K F a vs) (r : RpAll K F vs ds) : ItOk K F (Itv K a vs.length) ds.reverse := fun F1 H s1 s2 i => by
  have hH := (s1.trans s2).seq h
  have hl := da_len r
  refine ⟨fun d e => ?_, fun hl' => by rw [List.length_reverse] at hl'; exact (by rw [hl]; exact hl' : vs.length ≤ i)⟩
  have hi : i < ds.length := by
    have := (List.getElem?_eq_some_iff.mp e).1
    rw [List.length_reverse] at this
    exact this
  rw [rev_get hi] at e
  obtain ⟨v, e1, rv⟩ := da_at r e
  rw [← hl] at e1
  refine ⟨⟨by rw [hl]; exact hi, vs, v, hH, e1⟩, fun y H' hy => ?_⟩
  obtain ⟨rfl, hy⟩ := hy
  have e2 := (hy vs hH).symm.trans e1
  cases e2
  exact ⟨F1, Grow.refl s2, dp_mono s1 _ _ rv⟩
theorem it_revT {K : PySem.W.Frag} {F : Hp} {a : Addr} {vs : List V} {ds : List D} (h : SqT K F a vs) (r : RpAll K F vs ds) : ItOk K F (ItvT K a vs.length) ds.reverse := fun F1 H s1 s2 i => by
  have hH := seqT_same (s1.trans s2) h
  have hl := da_len r
  refine ⟨fun d e => ?_, fun hl' => by rw [List.length_reverse] at hl'; exact (by rw [hl]; exact hl' : vs.length ≤ i)⟩
  have hi : i < ds.length := by
    have := (List.getElem?_eq_some_iff.mp e).1
    rw [List.length_reverse] at this
    exact this
  rw [rev_get hi] at e
  obtain ⟨v, e1, rv⟩ := da_at r e
  rw [← hl] at e1
  refine ⟨⟨by rw [hl]; exact hi, vs, v, hH, e1⟩, fun y H' hy => ?_⟩
  obtain ⟨rfl, hy⟩ := hy
  have e2 := (hy vs hH).symm.trans e1
  cases e2
  exact ⟨F1, Grow.refl s2, dp_mono s1 _ _ rv⟩
theorem di_reve {g : Md D} (hg : Gl X "reversed") (hm : X.mg "reversed" = none) (he : DE X e g) (hs : starEach [e] X.env = (false, eval e X.env) :: starEach [] X.env := by rfl) : DI X tg (.Call (.Name "reversed" p) [e] [] pos) (gReve g) :=
  pi_imp (pi_revA hg hm he hs) fun σ H R q => by
    obtain ⟨F, ρ, ds, ρ', s, eg, k⟩ := q
    obtain ⟨⟨d, ρ1⟩, e1, eg1⟩ := bind_some eg
    obtain ⟨z, e2, eg2⟩ := bind_some eg1
    cases eg2
    refine ⟨F, ρ, d, _, s, e1, fun v F1 H1 p1 s1 r1 => ?_⟩
    simp only at e2
    cases d with
    | list xs =>
      cases e2
      cases r1 with
      | @lst a vs _ h1 d1 => exact ⟨a, vs, rfl, .inl ⟨s1.sub.seq h1, k _ F1 H1 p1 s1 (it_rev h1 d1)⟩⟩
    | tuple xs =>
      cases e2
      cases r1 with
      | @tup a vs _ h1 d1 => exact ⟨a, vs, rfl, .inr ⟨seqT_same s1.sub h1, k _ F1 H1 p1 s1 (it_revT h1 d1)⟩⟩
    | none => cases e2
    | bool _ => cases e2
    | int _ => cases e2
    | str _ => cases e2
    | dict _ => cases e2

/-! sums, the greatest, the least of a list of whole numbers -/
def numsOf : List D → Option (List Int)
  | [] => some []
  | .int i :: r => (numsOf r).bind fun ns => some (i :: ns)
  | _ => none
theorem numsOf_map : ∀ {ds : List D} {ns : List Int}, numsOf ds = some ns → ds = ns.map PyData.int
  | [], _, h => by cases h; rfl
  | .int i :: r, _, h => by
    obtain ⟨ns, e1, e2⟩ := bind_some h
    cases e2
    rw [numsOf_map e1]
    rfl
  | .none :: _, _, h => by cases h
  | .bool _ :: _, _, h => by cases h
  | .str _ :: _, _, h => by cases h
  | .list _ :: _, _, h => by cases h
  | .tuple _ :: _, _, h => by cases h
  | .dict _ :: _, _, h => by cases h
theorem nums_map : ∀ ns : List Int, numsOf (ns.map PyData.int) = some ns
  | [] => rfl
  | n :: ns => by
    show (numsOf (ns.map PyData.int)).bind (fun r => some (n :: r)) = _
    rw [nums_map ns]
    rfl
def mostI : List Int → Option Int
  | [] => none
  | n :: ns => some (ns.foldl (fun m x => if x > m then x else m) n)
def leastI : List Int → Option Int
  | [] => none
  | n :: ns => some (ns.foldl (fun m x => if x < m then x else m) n)
def sumF : List D → Option D
  | [.list xs] => (numsOf xs).bind fun ns => some (.int ns.sum)
  | _ => none
def max1F : List D → Option D
  | [.list xs] => (numsOf xs).bind fun ns => (mostI ns).bind fun m => some (.int m)
  | _ => none
def min1F : List D → Option D
  | [.list xs] => (numsOf xs).bind fun ns => (leastI ns).bind fun m => some (.int m)
  | _ => none
theorem fold_max : ∀ (ns : List Int) (n : Int), (ns.foldl (fun m x => if x > m then x else m) n ∈ n :: ns) ∧ ∀ y ∈ n :: ns, y ≤ ns.foldl (fun m x => if x > m then x else m) n
  | [], n => ⟨by simp, by simp⟩
  | x :: ns, n => by
    rw [List.foldl_cons]
    obtain ⟨h1, h2⟩ := fold_max ns (if x > n then x else n)
    refine ⟨?_, fun y hy => ?_⟩
    · rcases List.mem_cons.mp h1 with e | e
      · rw [e]
        by_cases z : x > n
        · rw [if_pos z]; simp
        · rw [if_neg z]; simp
      · simp [e]
    · have h3 := h2 _ List.mem_cons_self
      rcases List.mem_cons.mp hy with e | e
      · subst e
        refine Int.le_trans ?_ h3
        split <;> omega
      · rcases List.mem_cons.mp e with e | e
        · subst e
          refine Int.le_trans ?_ h3
          split <;> omega
        · exact h2 y (List.mem_cons_of_mem _ e)
theorem fold_min : ∀ (ns : List Int) (n : Int), (ns.foldl (fun m x => if x < m then x else m) n ∈ n :: ns) ∧ ∀ y ∈ n :: ns, ns.foldl (fun m x => if x < m then x else m) n ≤ y
  | [], n => ⟨by simp, by simp⟩
  | x :: ns, n => by
    rw [List.foldl_cons]
    obtain ⟨h1, h2⟩ := fold_min ns (if x < n then x else n)
    refine ⟨?_, fun y hy => ?_⟩
    · rcases List.mem_cons.mp h1 with e | e
      · rw [e]
        by_cases z : x < n
        · rw [if_pos z]; simp
        · rw [if_neg z]; simp
      · simp [e]
    · have h3 := h2 _ List.mem_cons_self
      rcases List.mem_cons.mp hy with e | e
      · subst e
        refine Int.le_trans h3 ?_
        split <;> omega
      · rcases List.mem_cons.mp e with e | e
        · subst e
          refine Int.le_trans h3 ?_
          split <;> omega
        · exact h2 y (List.mem_cons_of_mem _ e)
theorem call_sumD (hc : X.calm = true) : CallR X (.builtin "sum") (rPn X.K sumF) := by
  intro pins s σ H xs us Q I rx h
  obtain ⟨F, ds, r, sf, hd, ef, k⟩ := h
  unfold sumF at ef
  split at ef
  · obtain ⟨ns, e1, e2⟩ := bind_some ef
    cases e2
    obtain ⟨v, rfl, hv⟩ := da1 hd
    cases hv with
    | @lst a ws _ h1 d1 =>
      rw [numsOf_map e1] at d1
      have e3 := da_of_ints ns d1
      subst e3
      exact cr_sum hc pins s σ H _ us Q I rx ⟨a, ns, rfl, sf.seq h1, k _ F H (Grow.refl sf) (.int _)⟩
  · cases ef
theorem call_max1 (hc : X.calm = true) : CallR X (.builtin "max") (rPn X.K max1F) := by
  intro pins s σ H xs us Q I rx h
  obtain ⟨F, ds, r, sf, hd, ef, k⟩ := h
  unfold max1F at ef
  split at ef
  · obtain ⟨ns, e1, e2⟩ := bind_some ef
    obtain ⟨m, e4, e5⟩ := bind_some e2
    cases e5
    obtain ⟨v, rfl, hv⟩ := da1 hd
    cases hv with
    | @lst a ws _ h1 d1 =>
      rw [numsOf_map e1] at d1
      have e3 := da_of_ints ns d1
      subst e3
      cases ns with
      | nil => cases e4
      | cons n ns =>
        cases e4
        obtain ⟨f1, f2⟩ := fold_max ns n
        refine cr_max hc pins s σ H _ us Q I rx ⟨a, n :: ns, rfl, sf.seq h1, by simp, fun m h3 h4 => ?_⟩
        have e6 : m = ns.foldl (fun m x => if x > m then x else m) n := Int.le_antisymm (f2 m h3) (h4 _ f1)
        rw [e6]
        exact k _ F H (Grow.refl sf) (.int _)
  · cases ef
theorem call_min1 (hc : X.calm = true) : CallR X (.builtin "min") (rPn X.K min1F) := by
  intro pins s σ H xs us Q I rx h
  obtain ⟨F, ds, r, sf, hd, ef, k⟩ := h
  unfold min1F at ef
  split at ef
  · obtain ⟨ns, e1, e2⟩ := bind_some ef
    obtain ⟨m, e4, e5⟩ := bind_some e2
    cases e5
    obtain ⟨v, rfl, hv⟩ := da1 hd
    cases hv with
    | @lst a ws _ h1 d1 =>
      rw [numsOf_map e1] at d1
      have e3 := da_of_ints ns d1
      subst e3
      cases ns with
      | nil => cases e4
      | cons n ns =>
        cases e4
        obtain ⟨f1, f2⟩ := fold_min ns n
        refine cr_min hc pins s σ H _ us Q I rx ⟨a, n :: ns, rfl, sf.seq h1, by simp, fun m h3 h4 => ?_⟩
        have e6 : m = ns.foldl (fun m x => if x < m then x else m) n := Int.le_antisymm (h4 _ f1) (f2 m h3)
        rw [e6]
        exact k _ F H (Grow.refl sf) (.int _)
  · cases ef
end
end Dn
set_option maxHeartbeats 2000000
/-! what a denotation comes to: words for reckoning -/
namespace Dm
open PySem Dn
abbrev Env := Dn.Env

def Wo {α : Type} (o : Option α) (Q : α → Prop) : Prop := ∃ a, o = some a ∧ Q a
def Wm {α : Type} (g : Md α) (ρ : Env) (Q : α → Env → Prop) : Prop := Wo (g ρ) fun p => Q p.1 p.2
def Ws (g : Sd) (ρ : Env) (Q : Fl → Env → Prop) : Prop := Wo (g ρ) fun p => Q p.1 p.2

section
variable {α β : Type} {ρ : Env}
theorem wo_some {a : α} {Q : α → Prop} : Wo (some a) Q ↔ Q a := ⟨fun ⟨_, e, q⟩ => by cases e; exact q, fun q => ⟨a, rfl, q⟩⟩
theorem wo_none {Q : α → Prop} : Wo (none : Option α) Q ↔ False := ⟨fun ⟨_, e, _⟩ => (by cases e), False.elim⟩
theorem wo_bind {o : Option α} {f : α → Option β} {Q : β → Prop} : Wo (o.bind f) Q ↔ Wo o fun a => Wo (f a) Q := by
  cases o with
  | none => exact ⟨fun ⟨_, e, _⟩ => (by cases e), fun ⟨_, e, _⟩ => (by cases e)⟩
  | some a => exact ⟨fun h => ⟨a, rfl, h⟩, fun ⟨_, e, h⟩ => by cases e; exact h⟩
theorem wo_mono {o : Option α} {Q Q' : α → Prop} (h : Wo o Q) (i : ∀ a, Q a → Q' a) : Wo o Q' := let ⟨a, e, q⟩ := h; ⟨a, e, i a q⟩
theorem wo_ite {c : Prop} [Decidable c] {a b : Option α} {Q : α → Prop} : Wo (if c then a else b) Q ↔ if c then Wo a Q else Wo b Q := by
  by_cases h : c
  · rw [if_pos h, if_pos h]
  · rw [if_neg h, if_neg h]
theorem wo_of {o : Option α} {a : α} {Q : α → Prop} (e : o = some a) (q : Q a) : Wo o Q := ⟨a, e, q⟩
theorem wo_eq {o : Option α} {a : α} : Wo o (fun x => x = a) ↔ o = some a := ⟨fun ⟨_, e, q⟩ => by rw [e, q], fun h => ⟨a, h, rfl⟩⟩

def valOf : Option (Option Cell) → Option D
  | some (some (.val d)) => some d
  | _ => none
theorem valOf_val {d : D} : valOf (some (some (.val d))) = some d := rfl
/-- own lists that are looked at -/
def frzOf (i : Nat) (ρ : Env) : Option (Option Cell) → Option (D × Env)
  | some (some (.val d)) => some (d, ρ)
  | some (some (.own false d)) => some (d, ρ.set i (some (.val d)))
  | _ => none
theorem frz_val {i : Nat} {d : D} : frzOf i ρ (some (some (.val d))) = some (d, ρ) := rfl
theorem frz_own {i : Nat} {d : D} : frzOf i ρ (some (some (.own false d))) = some (d, ρ.set i (some (.val d))) := rfl
def cOwn : Option (Option Cell) → Option (Bool × D)
  | some (some (.own b d)) => some (b, d)
  | _ => none
theorem cOwn_own {b : Bool} {d : D} : cOwn (some (some (.own b d))) = some (b, d) := rfl
def peekOf : Option (Option Cell) → Option D
  | some (some (.val d)) => some d
  | some (some (.own _ d)) => some d
  | _ => none
theorem peek_val {d : D} : peekOf (some (some (.val d))) = some d := rfl
theorem peek_own {b : Bool} {d : D} : peekOf (some (some (.own b d))) = some d := rfl
def canSet : Option (Option Cell) → Option Unit
  | some (some (.own true _)) => none
  | some _ => some ()
  | none => none
theorem canSet_none : canSet (some none) = some () := rfl
theorem canSet_val {d : D} : canSet (some (some (.val d))) = some () := rfl
theorem canSet_own {d : D} : canSet (some (some (.own false d))) = some () := rfl
def lstOf : D → Option (List D)
  | .list ds => some ds
  | _ => none
theorem lstOf_list {ds : List D} : lstOf (.list ds) = some ds := rfl

variable {Q : D → Env → Prop}
theorem wm_c {d : D} : Wm (gC d) ρ Q ↔ Q d ρ := wo_some
theorem wm_var {i : Nat} : Wm (gVar i) ρ Q ↔ Wo (valOf ρ[i]?) fun d => Q d ρ := by
  unfold Wm gVar
  split
  · rename_i d h
    rw [h, wo_some, valOf_val, wo_some]
  · rename_i h
    have e : valOf ρ[i]? = none := by
      unfold valOf
      split
      · rename_i d z
        exact absurd z (h d)
      · rfl
    rw [e, wo_none, wo_none]
theorem wm_frz {i : Nat} : Wm (gFrz i) ρ Q ↔ Wo (frzOf i ρ ρ[i]?) fun p => Q p.1 p.2 := by
  unfold Wm gFrz frzOf
  exact Iff.rfl
theorem wm_bin {f : D → D → Option D} {a b : Md D} : Wm (gBin f a b) ρ Q ↔ Wm a ρ fun x ρ1 => Wm b ρ1 fun y ρ2 => Wo (f x y) fun r => Q r ρ2 := by
  unfold Wm gBin
  simp only [wo_bind, wo_some]
theorem wm_un {f : D → Option D} {a : Md D} : Wm (gUn f a) ρ Q ↔ Wm a ρ fun x ρ1 => Wo (f x) fun r => Q r ρ1 := by
  unfold Wm gUn
  simp only [wo_bind, wo_some]
theorem wm_tst {a : Md D} {Q : Bool → Env → Prop} : Wm (gTst a) ρ Q ↔ Wm a ρ fun x ρ1 => Wo (bOf x) fun b => Q b ρ1 := by
  unfold Wm gTst
  simp only [wo_bind, wo_some]
theorem wm_tru {a : Md D} {Q : Bool → Env → Prop} : Wm (gTru a) ρ Q ↔ Wm a ρ fun x ρ1 => Wo (truT x) fun b => Q b ρ1 := by
  unfold Wm gTru
  simp only [wo_bind, wo_some]
theorem wm_truB {i : Nat} {Q : Bool → Env → Prop} : Wm (gTruB i) ρ Q ↔ Wo (peekOf ρ[i]?) fun d => Wo (truT d) fun b => Q b ρ := by
  unfold Wm gTruB
  simp only [wo_bind, wo_some]
  exact Iff.rfl
theorem wm_chain {f f' : D → D → Option D} {a b c : Md D} : Wm (gChain f f' a b c) ρ Q ↔ Wm a ρ fun x ρ1 => Wm b ρ1 fun y ρ2 => Wo (f x y) fun r => Wo (bOf r) fun t =>
    if t = true then Wm c ρ2 fun z ρ3 => Wo (f' y z) fun r => Q r ρ3 else Q (.bool false) ρ2 := by
  unfold Wm gChain
  simp only [wo_bind, wo_some, wo_ite]
theorem wm_and {a b : Md Bool} {Q : Bool → Env → Prop} : Wm (gAnd a b) ρ Q ↔ Wm a ρ fun x ρ1 => if x = true then Wm b ρ1 Q else Q false ρ1 := by
  unfold Wm gAnd
  simp only [wo_bind, wo_some, wo_ite]
theorem wm_or {a b : Md Bool} {Q : Bool → Env → Prop} : Wm (gOr a b) ρ Q ↔ Wm a ρ fun x ρ1 => if x = true then Q true ρ1 else Wm b ρ1 Q := by
  unfold Wm gOr
  simp only [wo_bind, wo_some, wo_ite]
theorem wm_not {a : Md Bool} {Q : Bool → Env → Prop} : Wm (gNot a) ρ Q ↔ Wm a ρ fun x ρ1 => Q (!x) ρ1 := by
  unfold Wm gNot
  simp only [wo_bind, wo_some]
theorem wm_andV {a b : Md D} : Wm (gAndV a b) ρ Q ↔ Wm a ρ fun x ρ1 => Wo (bOf x) fun t => if t = true then Wm b ρ1 Q else Q (.bool false) ρ1 := by
  unfold Wm gAndV
  simp only [wo_bind, wo_some, wo_ite]
theorem wm_orV {a b : Md D} : Wm (gOrV a b) ρ Q ↔ Wm a ρ fun x ρ1 => Wo (bOf x) fun t => if t = true then Q (.bool true) ρ1 else Wm b ρ1 Q := by
  unfold Wm gOrV
  simp only [wo_bind, wo_some, wo_ite]
theorem wm_notV {a : Md D} : Wm (gNotV a) ρ Q ↔ Wm a ρ fun x ρ1 => Wo (bOf x) fun t => Q (.bool !t) ρ1 := by
  unfold Wm gNotV
  simp only [wo_bind, wo_some]
theorem wm_ifE {c : Md Bool} {a b : Md D} : Wm (gIfE c a b) ρ Q ↔ Wm c ρ fun x ρ1 => if x = true then Wm a ρ1 Q else Wm b ρ1 Q := by
  unfold Wm gIfE
  simp only [wo_bind, wo_some, wo_ite]
theorem wm_nil {Q : List D → Env → Prop} : Wm gNil ρ Q ↔ Q [] ρ := wo_some
theorem wm_cons {a : Md D} {b : Md (List D)} {Q : List D → Env → Prop} : Wm (gCons a b) ρ Q ↔ Wm a ρ fun x ρ1 => Wm b ρ1 fun y ρ2 => Q (x :: y) ρ2 := by
  unfold Wm gCons
  simp only [wo_bind, wo_some]
theorem wm_app {f : List D → Option D} {a : Md (List D)} : Wm (gApp f a) ρ Q ↔ Wm a ρ fun x ρ1 => Wo (f x) fun r => Q r ρ1 := by
  unfold Wm gApp
  simp only [wo_bind, wo_some]
theorem wm_noP {Q : Option Int → Env → Prop} : Wm gNoP ρ Q ↔ Q none ρ := wo_some
theorem wm_part {a : Md D} {Q : Option Int → Env → Prop} : Wm (gPart a) ρ Q ↔ Wm a ρ fun x ρ1 => Wo (iOf x) fun i => Q (some i) ρ1 := by
  unfold Wm gPart
  simp only [wo_bind, wo_some]
theorem wm_sl {a : Md D} {l h : Md (Option Int)} : Wm (gSl a l h) ρ Q ↔ Wm a ρ fun x ρ1 => Wm l ρ1 fun i ρ2 => Wm h ρ2 fun j ρ3 => Wo (cutD x i j) fun r => Q r ρ3 := by
  unfold Wm gSl
  simp only [wo_bind, wo_some]
theorem wm_pk {i : Nat} {f : List D → Option D} : Wm (gPk i f) ρ Q ↔ Wo (peekOf ρ[i]?) fun d => Wo (f [d]) fun r => flatD r = true ∧ Q r ρ := by
  unfold Wm gPk
  simp only [wo_bind]
  refine Iff.of_eq (congrArg _ (funext fun d => congrArg _ (funext fun r => ?_)))
  rw [wo_ite, wo_some, wo_none]
  by_cases h : flatD r = true
  · rw [if_pos h]; simp [h]
  · rw [if_neg h]; simp [h]
def ownSt (i : Nat) (ρ : Env) : Prop := ∃ b d, ρ[i]? = some (some (.own b d))
theorem cOwn_some {o : Option (Option Cell)} {p : Bool × D} (h : cOwn o = some p) : o = some (some (.own p.1 p.2)) := by
  unfold cOwn at h
  split at h
  · cases h; rfl
  · cases h
theorem wm_io {i : Nat} {f : D → List D → Option (D × D)} {a : Md (List D)} : Wm (gCallIO i f a) ρ Q ↔ Wo (cOwn ρ[i]?) fun _ => Wm a ρ fun ds ρ1 => Wo (cOwn ρ1[i]?) fun c => Wo (f c.2 ds) fun r => Q r.1 (ρ1.set i (some (.own c.1 r.2))) := by
  unfold Wm gCallIO
  split
  · rename_i b d h
    rw [h, cOwn_own, wo_some, wo_bind]
    refine Iff.of_eq (congrArg _ (funext fun p => ?_))
    try dsimp only
    split
    · rename_i b1 d1 h1
      rw [h1, cOwn_own, wo_some, wo_bind]
      simp only [wo_some]
    · rename_i h1
      have e : cOwn p.2[i]? = none := by
        unfold cOwn
        split
        · rename_i b2 d2 z
          exact absurd z (h1 b2 d2)
        · rfl
      rw [e, wo_none, wo_none]
  · rename_i h
    have e : cOwn ρ[i]? = none := by
      unfold cOwn
      split
      · rename_i b2 d2 z
        exact absurd z (h b2 d2)
      · rfl
    rw [e, wo_none, wo_none]
theorem wm_ixB_val {i : Nat} {a : Md D} {d : D} (h : ρ[i]? = some (some (.val d))) : Wm (gIxB i a) ρ Q ↔ Wm a ρ fun x ρ1 => Wo (ixD d x) fun r => Q r ρ1 := by
  unfold Wm gIxB
  rw [h]
  simp only [wo_bind, wo_some]
theorem wm_ixB {i : Nat} {a : Md D} {b : Bool} {d : D} (h : ρ[i]? = some (some (.own b d))) : Wm (gIxB i a) ρ Q ↔ Wm a ρ fun x ρ1 => Wo (cOwn ρ1[i]?) fun c => Wo (ixD c.2 x) fun r => Q r ρ1 := by
  unfold Wm gIxB
  rw [h]
  simp only [wo_bind]
  refine Iff.of_eq (congrArg _ (funext fun p => ?_))
  try dsimp only
  split
  · rename_i b1 d1 h1
    rw [h1, cOwn_own, wo_some, wo_bind]
    simp only [wo_some]
  · rename_i h1
    have e : cOwn p.2[i]? = none := by
      unfold cOwn
      split
      · rename_i b2 d2 z
        exact absurd z (h1 b2 d2)
      · rfl
    rw [e, wo_none, wo_none]
def byCell (o : Option (Option Cell)) (p : D → Prop) (q : Prop) : Prop := match o with
  | some (some (.val d)) => p d
  | some (some (.own _ _)) => q
  | _ => False
theorem by_val {d : D} {p : D → Prop} {q : Prop} : byCell (some (some (.val d))) p q ↔ p d := Iff.rfl
theorem by_own {b : Bool} {d : D} {p : D → Prop} {q : Prop} : byCell (some (some (.own b d))) p q ↔ q := Iff.rfl
theorem wm_ix {i : Nat} {a : Md D} : Wm (gIxB i a) ρ Q ↔ byCell ρ[i]? (fun d => Wm a ρ fun x ρ1 => Wo (ixD d x) fun r => Q r ρ1) (Wm a ρ fun x ρ1 => Wo (cOwn ρ1[i]?) fun c => Wo (ixD c.2 x) fun r => Q r ρ1) := by
  cases h : ρ[i]? with
  | none =>
    unfold Wm gIxB
    rw [h, wo_none]
    exact Iff.rfl
  | some o =>
    cases o with
    | none =>
      unfold Wm gIxB
      rw [h, wo_none]
      exact Iff.rfl
    | some c =>
      cases c with
      | val d => exact wm_ixB_val h
      | own b d => exact wm_ixB h
theorem wm_inB {neg : Bool} {i : Nat} {a : Md D} : Wm (gInB neg i a) ρ Q ↔ Wm a ρ fun x ρ1 => Wo (peekOf ρ1[i]?) fun e => Wo (inT x e) fun b => Q (.bool (if neg = true then !b else b)) ρ1 := by
  unfold Wm gInB
  simp only [wo_bind, wo_some]
  exact Iff.rfl
theorem wm_true {Q : Bool → Env → Prop} : Wm gTrue ρ Q ↔ Q true ρ := wo_some
theorem wm_seq {a : Md D} {Q : List D → Env → Prop} : Wm (gSeq a) ρ Q ↔ Wm a ρ fun x ρ1 => Wo (seqOf x) fun ds => Q ds ρ1 := by
  unfold Wm gSeq
  simp only [wo_bind, wo_some]
def oneInt : List D → Option Int
  | [.int j] => if small62 j = true then some j else none
  | _ => none
theorem oneInt_int {j : Int} : oneInt [.int j] = if small62 j = true then some j else none := rfl
theorem wm_rng1 {a : Md (List D)} {Q : List D → Env → Prop} : Wm (gRng1 a) ρ Q ↔ Wm a ρ fun x ρ1 => Wo (oneInt x) fun j => Q (rngL 0 j.toNat) ρ1 := by
  unfold Wm gRng1
  rw [wo_bind]
  refine Iff.of_eq (congrArg _ (funext fun p => ?_))
  try dsimp only
  split
  · rename_i j e
    rw [e, oneInt_int, wo_ite, wo_ite, wo_some, wo_some, wo_none, wo_none]
  · rename_i h
    have e : oneInt p.1 = none := by
      unfold oneInt
      split
      · rename_i j z
        exact absurd z (h j)
      · rfl
    rw [e, wo_none, wo_none]
def twoInts : List D → Option (Int × Int)
  | [.int i, .int j] => if small62 i = true ∧ small62 j = true then some (i, j) else none
  | _ => none
theorem twoInts_int {i j : Int} : twoInts [.int i, .int j] = if small62 i = true ∧ small62 j = true then some (i, j) else none := rfl
theorem wm_rng2 {a : Md (List D)} {Q : List D → Env → Prop} : Wm (gRng2 a) ρ Q ↔ Wm a ρ fun x ρ1 => Wo (twoInts x) fun p => Q (rngL p.1 (p.2 - p.1).toNat) ρ1 := by
  unfold Wm gRng2
  rw [wo_bind]
  refine Iff.of_eq (congrArg _ (funext fun p => ?_))
  try dsimp only
  split
  · rename_i i j e
    rw [e, twoInts_int, wo_ite, wo_ite, wo_some, wo_some, wo_none, wo_none]
  · rename_i h
    have e : twoInts p.1 = none := by
      unfold twoInts
      split
      · rename_i i j z
        exact absurd z (h i j)
      · rfl
    rw [e, wo_none, wo_none]

/-! statements -/
def thenQ (t : Sd) (Q : Fl → Env → Prop) : Fl → Env → Prop
  | .nx, ρ => Ws t ρ Q
  | .ret d, ρ => Q (.ret d) ρ
  | .rof d, ρ => Q (.rof d) ρ
  | .brk, ρ => Q .brk ρ
  | .cnt, ρ => Q .cnt ρ
variable {R : Fl → Env → Prop}
theorem then_nx {t : Sd} : thenQ t R .nx ρ ↔ Ws t ρ R := Iff.rfl
theorem then_ret {t : Sd} {d : D} : thenQ t R (.ret d) ρ ↔ R (.ret d) ρ := Iff.rfl
theorem then_rof {t : Sd} {d : D} : thenQ t R (.rof d) ρ ↔ R (.rof d) ρ := Iff.rfl
theorem then_brk {t : Sd} : thenQ t R .brk ρ ↔ R .brk ρ := Iff.rfl
theorem then_cnt {t : Sd} : thenQ t R .cnt ρ ↔ R .cnt ρ := Iff.rfl
theorem ws_next : Ws sNext ρ R ↔ R .nx ρ := wo_some
theorem ws_brk : Ws sBrk ρ R ↔ R .brk ρ := wo_some
theorem ws_cnt : Ws sCnt ρ R ↔ R .cnt ρ := wo_some
theorem ws_seq {s t : Sd} : Ws (sSeq s t) ρ R ↔ Ws s ρ (thenQ t R) := by
  unfold Ws sSeq
  rw [wo_bind]
  refine Iff.of_eq (congrArg _ (funext fun p => ?_))
  try dsimp only
  obtain ⟨f, ρ1⟩ := p
  cases f with
  | nx => rfl
  | ret d => exact propext wo_some
  | rof d => exact propext wo_some
  | brk => exact propext wo_some
  | cnt => exact propext wo_some
theorem ws_if {g : Md Bool} {s t : Sd} : Ws (sIf g s t) ρ R ↔ Wm g ρ fun b ρ1 => if b = true then Ws s ρ1 R else Ws t ρ1 R := by
  unfold Ws Wm sIf
  simp only [wo_bind, wo_ite]
theorem ws_ret {g : Md D} : Ws (sRet g) ρ R ↔ Wm g ρ fun d ρ1 => R (.ret d) ρ1 := by
  unfold Ws Wm sRet
  simp only [wo_bind, wo_some]
theorem ws_rof {g : Md D} : Ws (sRof g) ρ R ↔ Wm g ρ fun d ρ1 => R (.rof d) ρ1 := by
  unfold Ws Wm sRof
  simp only [wo_bind, wo_some]
theorem ws_drop {g : Md D} : Ws (sDrop g) ρ R ↔ Wm g ρ fun _ ρ1 => R .nx ρ1 := by
  unfold Ws Wm sDrop
  simp only [wo_bind, wo_some]
theorem setC_eq {i : Nat} {c : Cell} : setC i c ρ = (canSet ρ[i]?).bind fun _ => some (ρ.set i (some c)) := by
  unfold setC canSet
  split <;> rename_i h <;> simp only [h] <;> try rfl
theorem ws_set {i : Nat} {g : Md D} : Ws (sSet i g) ρ R ↔ Wm g ρ fun d ρ1 => Wo (canSet ρ1[i]?) fun _ => R .nx (ρ1.set i (some (.val d))) := by
  unfold Ws Wm sSet
  simp only [wo_bind, wo_some, setC_eq]
theorem ws_own {i : Nat} {g : Md D} : Ws (sOwn i g) ρ R ↔ Wm g ρ fun d ρ1 => Wo (canSet ρ1[i]?) fun _ => R .nx (ρ1.set i (some (.own false d))) := by
  unfold Ws Wm sOwn
  simp only [wo_bind, wo_some, setC_eq]
theorem ws_asg {g : Md D} {t : D → Env → Option Env} : Ws (sAsg g t) ρ R ↔ Wm g ρ fun d ρ1 => Wo (t d ρ1) fun r => R .nx r := by
  unfold Ws Wm sAsg
  simp only [wo_bind, wo_some]
theorem wo_TN {i : Nat} {d : D} {Q : Env → Prop} : Wo (gTN i d ρ) Q ↔ Wo (canSet ρ[i]?) fun _ => Q (ρ.set i (some (.val d))) := by
  unfold gTN
  simp only [setC_eq, wo_bind, wo_some]
theorem wo_TNil {Q : Env → Prop} : Wo (gTNil [] ρ) Q ↔ Q ρ := wo_some
theorem wo_TCons {g : D → Env → Option Env} {gs : List D → Env → Option Env} {d : D} {ds : List D} {Q : Env → Prop} : Wo (gTCons g gs (d :: ds) ρ) Q ↔ Wo (g d ρ) fun ρ1 => Wo (gs ds ρ1) Q := wo_bind
theorem wo_TTup {n : Nat} {gs : List D → Env → Option Env} {ds : List D} {Q : Env → Prop} : Wo (gTTup n gs (.tuple ds) ρ) Q ↔ ds.length = n ∧ Wo (gs ds ρ) Q := by
  show Wo (if ds.length = n then gs ds ρ else none) Q ↔ _
  by_cases h : ds.length = n
  · rw [if_pos h]; simp [h]
  · rw [if_neg h, wo_none]; simp [h]
theorem ws_app {i : Nat} {g : Md D} {b0 : Bool} {xs : List D} (h : ρ[i]? = some (some (.own b0 (.list xs)))) : Ws (sApp i g) ρ R ↔ Wm g ρ fun d ρ1 => Wo (cOwn ρ1[i]?) fun c => Wo (lstOf c.2) fun ds => ds.length < 16777216 ∧ R .nx (ρ1.set i (some (.own c.1 (.list (ds ++ [d]))))) := by
  unfold Ws Wm sApp
  rw [h]
  simp only [wo_bind]
  refine Iff.of_eq (congrArg _ (funext fun p => ?_))
  try dsimp only
  split
  · rename_i b1 ds h1
    rw [h1, cOwn_own, wo_some]
    show _ = Wo (lstOf (.list ds)) _
    rw [lstOf_list, wo_some]
    by_cases hl : ds.length < 16777216
    · rw [if_pos hl, wo_some]; simp [hl]
    · rw [if_neg hl, wo_none]; simp [hl]
  · rename_i h1
    cases q : cOwn p.2[i]? with
    | none => rw [wo_none, wo_none]
    | some c =>
      have e := cOwn_some q
      rw [wo_none, wo_some]
      cases z : c.2 with
      | list ds => exact absurd (by rw [e, z]) (h1 c.1 ds)
      | none => exact propext ⟨False.elim, fun ⟨_, e, _⟩ => (by cases e)⟩
      | bool _ => exact propext ⟨False.elim, fun ⟨_, e, _⟩ => (by cases e)⟩
      | int _ => exact propext ⟨False.elim, fun ⟨_, e, _⟩ => (by cases e)⟩
      | str _ => exact propext ⟨False.elim, fun ⟨_, e, _⟩ => (by cases e)⟩
      | tuple _ => exact propext ⟨False.elim, fun ⟨_, e, _⟩ => (by cases e)⟩
      | dict _ => exact propext ⟨False.elim, fun ⟨_, e, _⟩ => (by cases e)⟩
theorem ws_ap {i : Nat} {g : Md D} : Ws (sApp i g) ρ R ↔ Wo (cOwn ρ[i]?) fun c0 => Wo (lstOf c0.2) fun _ => Wm g ρ fun d ρ1 => Wo (cOwn ρ1[i]?) fun c => Wo (lstOf c.2) fun ds => ds.length < 16777216 ∧ R .nx (ρ1.set i (some (.own c.1 (.list (ds ++ [d]))))) := by
  cases h : cOwn ρ[i]? with
  | none =>
    rw [wo_none]
    unfold Ws sApp
    split
    · rename_i b0 d0 h0
      rw [h0] at h
      cases h
    · rw [wo_none]
  | some c =>
    have e := cOwn_some h
    rw [wo_some]
    cases z : c.2 with
    | list xs =>
      rw [z] at e
      rw [lstOf_list, wo_some]
      exact ws_app e
    | none => exact ⟨fun ⟨_, q, _⟩ => (by rw [z] at e; unfold sApp at q; rw [e] at q; cases q), fun ⟨_, q, _⟩ => (by cases q)⟩
    | bool _ => exact ⟨fun ⟨_, q, _⟩ => (by rw [z] at e; unfold sApp at q; rw [e] at q; cases q), fun ⟨_, q, _⟩ => (by cases q)⟩
    | int _ => exact ⟨fun ⟨_, q, _⟩ => (by rw [z] at e; unfold sApp at q; rw [e] at q; cases q), fun ⟨_, q, _⟩ => (by cases q)⟩
    | str _ => exact ⟨fun ⟨_, q, _⟩ => (by rw [z] at e; unfold sApp at q; rw [e] at q; cases q), fun ⟨_, q, _⟩ => (by cases q)⟩
    | tuple _ => exact ⟨fun ⟨_, q, _⟩ => (by rw [z] at e; unfold sApp at q; rw [e] at q; cases q), fun ⟨_, q, _⟩ => (by cases q)⟩
    | dict _ => exact ⟨fun ⟨_, q, _⟩ => (by rw [z] at e; unfold sApp at q; rw [e] at q; cases q), fun ⟨_, q, _⟩ => (by cases q)⟩
theorem ws_setIx {i : Nat} {gv gi : Md D} : Ws (sSetIx i gv gi) ρ R ↔ Wm gv ρ fun d ρ1 => Wo (cOwn ρ1[i]?) fun _ => Wm gi ρ1 fun x ρ2 => Wo (iOf x) fun z => Wo (cOwn ρ2[i]?) fun c => Wo (lstOf c.2) fun ds => Wo (ixS ds.length z) fun j => R .nx (ρ2.set i (some (.own c.1 (.list (ds.set j d))))) := by
  unfold Ws Wm sSetIx
  rw [wo_bind]
  refine Iff.of_eq (congrArg _ (funext fun p => ?_))
  try dsimp only
  split
  · rename_i b0 d0 h0
    rw [h0, cOwn_own, wo_some, wo_bind]
    refine congrArg _ (funext fun q => ?_)
    try dsimp only
    rw [wo_bind]
    refine congrArg _ (funext fun z => ?_)
    try dsimp only
    split
    · rename_i b1 ds h1
      rw [h1, cOwn_own, wo_some, wo_bind]
      show _ = Wo (lstOf (.list ds)) _
      rw [lstOf_list, wo_some]
      simp only [wo_some]
    · rename_i h1
      cases q2 : cOwn q.2[i]? with
      | none => rw [wo_none, wo_none]
      | some c =>
        have e := cOwn_some q2
        rw [wo_none, wo_some]
        cases z : c.2 with
        | list ds => exact absurd (by rw [e, z]) (h1 c.1 ds)
        | none => exact propext ⟨False.elim, fun ⟨_, e, _⟩ => (by cases e)⟩
        | bool _ => exact propext ⟨False.elim, fun ⟨_, e, _⟩ => (by cases e)⟩
        | int _ => exact propext ⟨False.elim, fun ⟨_, e, _⟩ => (by cases e)⟩
        | str _ => exact propext ⟨False.elim, fun ⟨_, e, _⟩ => (by cases e)⟩
        | tuple _ => exact propext ⟨False.elim, fun ⟨_, e, _⟩ => (by cases e)⟩
        | dict _ => exact propext ⟨False.elim, fun ⟨_, e, _⟩ => (by cases e)⟩
  · rename_i h
    have e : cOwn p.2[i]? = none := by
      unfold cOwn
      split
      · rename_i b2 d2 z
        exact absurd z (h b2 d2)
      · rfl
    rw [e, wo_none, wo_none]
/-! loops -/
theorem ws_for {gi : Md (List D)} {tg : D → Env → Option Env} {b : Sd} : Ws (sFor gi tg b) ρ R ↔ Wm gi ρ fun ds ρ1 => Ws (forD tg b ds) ρ1 R := by
  unfold Ws Wm sFor
  rw [wo_bind]
theorem ws_mono {s : Sd} {R R' : Fl → Env → Prop} (h : Ws s ρ R) (i : ∀ f ρ', R f ρ' → R' f ρ') : Ws s ρ R' := wo_mono h fun p => i p.1 p.2
/-- every turn goes on -/
theorem for_all {tg : D → Env → Option Env} {b : Sd} (I : List D → Env → Prop) : ∀ (ds pre : List D) (ρ : Env), I pre ρ →
    (∀ (p : List D) (d : D) (r : List D) (ρ : Env), pre ++ ds = p ++ d :: r → I p ρ → Wo (tg d ρ) fun ρ1 => Ws b ρ1 fun f ρ2 => (f = .nx ∨ f = .cnt) ∧ I (p ++ [d]) ρ2) →
    Ws (forD tg b ds) ρ fun f ρ' => f = .nx ∧ I (pre ++ ds) ρ'
  | [], pre, ρ, h, _ => ⟨(.nx, ρ), rfl, rfl, by rw [List.append_nil]; exact h⟩
  | d :: ds, pre, ρ, h, st => by
    obtain ⟨ρ1, e1, ⟨f, ρ2⟩, e2, hf, h2⟩ := st pre d ds ρ rfl h
    have ih := for_all I ds (pre ++ [d]) ρ2 h2 (fun p d' r ρ' e => st p d' r ρ' (by rw [← e]; simp))
    obtain ⟨⟨f', ρ'⟩, e3, h3, h4⟩ := ih
    refine ⟨(f', ρ'), ?_, h3, by simpa using h4⟩
    have hf' : f = .nx ∨ f = .cnt := hf
    show ((tg d ρ).bind fun ρ1 => (b ρ1).bind _) = _
    rw [e1]
    show ((b ρ1).bind _) = _
    rw [e2]
    rcases hf' with z | z
    · subst z; exact e3
    · subst z; exact e3
theorem ws_forall {tg : D → Env → Option Env} {b : Sd} {ds : List D} (I : List D → Env → Prop) (h0 : I [] ρ)
    (st : ∀ (p : List D) (d : D) (r : List D) (ρ : Env), ds = p ++ d :: r → I p ρ → Wo (tg d ρ) fun ρ1 => Ws b ρ1 fun f ρ2 => (f = .nx ∨ f = .cnt) ∧ I (p ++ [d]) ρ2)
    (fin : ∀ ρ', I ds ρ' → R .nx ρ') : Ws (forD tg b ds) ρ R :=
  ws_mono (for_all I ds [] ρ h0 fun p d r ρ e => st p d r ρ (by simpa using e)) fun f ρ' ⟨h1, h2⟩ => by
    subst h1
    exact fin ρ' (by simpa using h2)
theorem for_nil {tg : D → Env → Option Env} {b : Sd} : Ws (forD tg b []) ρ R ↔ R .nx ρ := wo_some
def turnQ (t : Sd) (R : Fl → Env → Prop) : Fl → Env → Prop
  | .nx, ρ => Ws t ρ R
  | .cnt, ρ => Ws t ρ R
  | .brk, ρ => R .nx ρ
  | .ret d, ρ => R (.ret d) ρ
  | .rof d, ρ => R (.rof d) ρ
theorem turn_nx {t : Sd} : turnQ t R .nx ρ ↔ Ws t ρ R := Iff.rfl
theorem turn_cnt {t : Sd} : turnQ t R .cnt ρ ↔ Ws t ρ R := Iff.rfl
theorem turn_brk {t : Sd} : turnQ t R .brk ρ ↔ R .nx ρ := Iff.rfl
theorem turn_ret {t : Sd} {d : D} : turnQ t R (.ret d) ρ ↔ R (.ret d) ρ := Iff.rfl
theorem turn_rof {t : Sd} {d : D} : turnQ t R (.rof d) ρ ↔ R (.rof d) ρ := Iff.rfl
theorem for_cons {tg : D → Env → Option Env} {b : Sd} {d : D} {ds : List D} : Ws (forD tg b (d :: ds)) ρ R ↔ Wo (tg d ρ) fun ρ1 => Ws b ρ1 (turnQ (forD tg b ds) R) := by
  show Wo ((tg d ρ).bind fun ρ1 => (b ρ1).bind _) _ ↔ _
  rw [wo_bind]
  refine Iff.of_eq (congrArg _ (funext fun ρ1 => ?_))
  try dsimp only
  rw [wo_bind]
  unfold Ws
  refine congrArg _ (funext fun p => ?_)
  try dsimp only
  obtain ⟨f, ρ2⟩ := p
  cases f with
  | nx => rfl
  | cnt => rfl
  | ret d => exact propext wo_some
  | rof d => exact propext wo_some
  | brk => exact propext wo_some
theorem while_succ {c : Md Bool} {b : Sd} {n : Nat} : Ws (whileD c b (n + 1)) ρ R ↔ Wm c ρ fun t ρ1 => if t = true then Ws b ρ1 (turnQ (whileD c b n) R) else R .nx ρ1 := by
  show Wo ((c ρ).bind fun q => if q.1 = true then (b q.2).bind _ else _) _ ↔ _
  rw [wo_bind]
  unfold Wm
  refine Iff.of_eq (congrArg _ (funext fun q => ?_))
  try dsimp only
  rw [wo_ite, wo_some]
  by_cases h : q.1 = true
  · rw [if_pos h, if_pos h, wo_bind]
    unfold Ws
    refine congrArg _ (funext fun p => ?_)
    try dsimp only
    obtain ⟨f, ρ2⟩ := p
    cases f with
    | nx => rfl
    | cnt => rfl
    | ret d => exact propext wo_some
    | rof d => exact propext wo_some
    | brk => exact propext wo_some
  · rw [if_neg h, if_neg h]
/-! comprehensions -/
theorem wm_lc {vs : List Nat} {gi : Md (List D)} {tg : D → Env → Option Env} {tt : Md Bool} {te : Md D} : Wm (gLc vs gi tg tt te) ρ Q ↔ Wm gi ρ fun ds ρ1 => (ds.length ≤ 16777216 ∧ vs.all (notOwn ρ1) = true) ∧ Wo (lcD vs tg tt te ds (wipeE ρ1 vs)) fun r => Q (.list r.1) (backE ρ1 vs r.2) := by
  unfold Wm gLc
  rw [wo_bind]
  refine Iff.of_eq (congrArg _ (funext fun p => ?_))
  try dsimp only
  by_cases h : p.1.length ≤ 16777216 ∧ vs.all (notOwn p.2) = true
  · rw [if_pos h, wo_bind]
    simp only [wo_some]
    exact propext ⟨fun z => ⟨h, z⟩, fun z => z.2⟩
  · rw [if_neg h, wo_none]
    exact propext ⟨False.elim, fun z => h z.1⟩
theorem lc_nil {vs : List Nat} {tg : D → Env → Option Env} {tt : Md Bool} {te : Md D} {Q : List D × Env → Prop} : Wo (lcD vs tg tt te [] ρ) Q ↔ Q ([], ρ) := wo_some
theorem lc_cons {vs : List Nat} {tg : D → Env → Option Env} {tt : Md Bool} {te : Md D} {d : D} {ds : List D} {Q : List D × Env → Prop} : Wo (lcD vs tg tt te (d :: ds) ρ) Q ↔ Wo (tg d ρ) fun ρ1 => Wm tt ρ1 fun b ρ2 =>
    if b = true then Wm te ρ2 fun y ρ3 => Wo (lcD vs tg tt te ds (wipeE ρ3 vs)) fun r => Q (y :: r.1, r.2) else Wo (lcD vs tg tt te ds (wipeE ρ2 vs)) Q := by
  show Wo ((tg d ρ).bind fun ρ1 => (tt ρ1).bind _) _ ↔ _
  unfold Wm
  simp only [wo_bind, wo_some, wo_ite]
/-- every item is kept, the environment is as before -/
theorem lc_map {vs : List Nat} {tg : D → Env → Option Env} {te : Md D} (f : D → D) {Q : List D × Env → Prop} : ∀ (ds : List D), (∀ d ∈ ds, Wo (tg d ρ) fun ρ1 => Wm te ρ1 fun y ρ2 => y = f d ∧ wipeE ρ2 vs = ρ) → Q (ds.map f, ρ) → Wo (lcD vs tg gTrue te ds ρ) Q
  | [], _, q => lc_nil.mpr q
  | d :: ds, h, q => by
    rw [lc_cons]
    refine wo_mono (h d List.mem_cons_self) fun ρ1 h1 => ?_
    rw [wm_true, if_pos rfl]
    refine wo_mono h1 fun p h2 => ?_
    dsimp only at h2 ⊢
    rw [h2.2]
    refine lc_map f (Q := fun r => Q (p.1 :: r.1, r.2)) ds (fun d' hd => h d' (List.mem_cons_of_mem _ hd)) ?_
    rw [h2.1]
    exact q
theorem lc_mapA {α : Type} {vs : List Nat} {tg : D → Env → Option Env} {te : Md D} (h f : α → D) {Q : List D × Env → Prop} : ∀ (xs : List α), (∀ x ∈ xs, Wo (tg (h x) ρ) fun ρ1 => Wm te ρ1 fun y ρ2 => y = f x ∧ wipeE ρ2 vs = ρ) → Q (xs.map f, ρ) → Wo (lcD vs tg gTrue te (xs.map h) ρ) Q
  | [], _, q => lc_nil.mpr q
  | d :: ds, hs, q => by
    rw [List.map_cons, lc_cons]
    refine wo_mono (hs d List.mem_cons_self) fun ρ1 h1 => ?_
    rw [wm_true, if_pos rfl]
    refine wo_mono h1 fun p h2 => ?_
    dsimp only at h2 ⊢
    rw [h2.2]
    refine lc_mapA h f (Q := fun r => Q (p.1 :: r.1, r.2)) ds (fun d' hd => hs d' (List.mem_cons_of_mem _ hd)) ?_
    rw [h2.1]
    exact q
/-! a comprehension with a state -/
theorem lc_inv {vs : List Nat} {tg : D → Env → Option Env} {te : Md D} (I : List D → List D → Env → Prop) {Q : List D × Env → Prop} : ∀ (ds pre acc : List D) (ρ : Env), I pre acc ρ →
    (∀ (p : List D) (d : D) (r a : List D) (ρ : Env), pre ++ ds = p ++ d :: r → I p a ρ → Wo (tg d ρ) fun ρ1 => Wm te ρ1 fun y ρ2 => I (p ++ [d]) (a ++ [y]) (wipeE ρ2 vs)) →
    (∀ a ρ', I (pre ++ ds) (acc ++ a) ρ' → Q (a, ρ')) → Wo (lcD vs tg gTrue te ds ρ) Q
  | [], pre, acc, ρ, h, _, q => lc_nil.mpr (q [] ρ (by rw [List.append_nil, List.append_nil]; exact h))
  | d :: ds, pre, acc, ρ, h, st, q => by
    rw [lc_cons]
    refine wo_mono (st pre d ds acc ρ rfl h) fun ρ1 h1 => ?_
    rw [wm_true, if_pos rfl]
    refine wo_mono h1 fun p h2 => ?_
    exact lc_inv I (Q := fun r => Q (p.1 :: r.1, r.2)) ds (pre ++ [d]) (acc ++ [p.1]) _ h2 (fun p' d' r a ρ' e => st p' d' r a ρ' (by rw [← e]; simp)) fun a ρ' hI => q (p.1 :: a) ρ' (by simpa using hI)

/-! defs -/
theorem wo_runV {N : Nat} {g : Sd} {ds : List D} {Q : D → Prop} : Wo (runV N g ds) Q ↔ Ws g (envV N ds) fun f ρ => Wo (endV (f, ρ)) Q := wo_bind
theorem wo_runF {N : Nat} {g : Sd} {ds : List D} {Q : D → Prop} : Wo (runF N g ds) Q ↔ Ws g (envV N ds) fun f ρ => Wo (endF (f, ρ)) Q := wo_bind
theorem wo_runIO {N : Nat} {g : Sd} {d : D} {ds : List D} {Q : D × D → Prop} : Wo (runIO N g d ds) Q ↔ Ws g (envIO N d ds) fun f ρ => Wo (endIO (f, ρ)) Q := wo_bind
theorem end_ret {d : D} {Q : D → Prop} : Wo (endV (.ret d, ρ)) Q ↔ Q d := wo_some
theorem end_nx {Q : D → Prop} : Wo (endV (.nx, ρ)) Q ↔ Q .none := wo_some
theorem end_rof {d : D} {Q : D → Prop} : Wo (endF (.rof d, ρ)) Q ↔ Q d := wo_some
theorem end_io {f : Fl} {Q : D × D → Prop} : Wo (endIO (f, ρ)) Q ↔ Wo (ownOf ρ[0]?) fun d => Wo (endV (f, ρ)) fun r => Q (r, d) := by
  unfold endIO
  simp only [wo_bind, wo_some]
theorem ownOf_own {d : D} : ownOf (some (some (.own true d))) = some d := rfl
end
/-! the functions on data, at data that are told -/
section
variable {i j : Int} {a b : Str} {p q : Bool} {xs ys : List D} {d e : D}
theorem add_ii : addD (.int i) (.int j) = some (.int (i + j)) := rfl
theorem add_ll : addD (.list xs) (.list ys) = if xs.length + ys.length ≤ 16777216 then some (.list (xs ++ ys)) else none := rfl
theorem add_tt : addD (.tuple xs) (.tuple ys) = if xs.length + ys.length ≤ 16777216 then some (.tuple (xs ++ ys)) else none := rfl
theorem add_ss : addD (.str a) (.str b) = if a.length + b.length ≤ 16777216 then some (.str (a ++ b)) else none := rfl
theorem sub_ii : subD (.int i) (.int j) = some (.int (i - j)) := rfl
theorem mul_ii : mulD (.int i) (.int j) = if i.natAbs.log2 + j.natAbs.log2 < 1000000 then some (.int (i * j)) else none := rfl
theorem mulS_ii : mulS (.int i) (.int j) = if -(2 ^ 64) < j ∧ j < 2 ^ 64 then some (.int (i * j)) else none := rfl
theorem mod_ii : modD (.int i) (.int j) = if 0 < j then some (.int (i % j)) else none := rfl
theorem fdiv_ii : fdivD (.int i) (.int j) = if 0 < j ∧ j < 18446744073709551616 then some (.int (i / j)) else none := rfl
theorem neg_i : negD (.int i) = some (.int (-i)) := rfl
theorem le_ii : leD (.int i) (.int j) = some (.bool (decide (i ≤ j))) := rfl
theorem gt_ii : gtD (.int i) (.int j) = some (.bool (decide (j < i))) := rfl
theorem ge_ii : geD (.int i) (.int j) = some (.bool (decide (j ≤ i))) := rfl
theorem eqT_ii : eqT (.int i) (.int j) = some (decide (i = j)) := rfl
theorem eqT_ss : eqT (.str a) (.str b) = some (decide (a = b)) := rfl
theorem eqT_bb : eqT (.bool p) (.bool q) = some (decide (p = q)) := rfl
theorem eqT_nn : eqT .none .none = some true := rfl
theorem ltT_ii : ltT (.int i) (.int j) = some (decide (i < j)) := rfl
theorem ltT_ss : ltT (.str a) (.str b) = some (decide (a.cps.toList < b.cps.toList)) := rfl
theorem wo_eqD {Q : D → Prop} : Wo (eqD d e) Q ↔ Wo (eqT d e) fun b => Q (.bool b) := by
  unfold eqD
  simp only [wo_bind, wo_some]
theorem wo_neD {Q : D → Prop} : Wo (neD d e) Q ↔ Wo (eqT d e) fun b => Q (.bool (!b)) := by
  unfold neD
  simp only [wo_bind, wo_some]
theorem wo_ltD {Q : D → Prop} : Wo (ltD d e) Q ↔ Wo (ltT d e) fun b => Q (.bool b) := by
  unfold ltD
  simp only [wo_bind, wo_some]
theorem wo_inD {Q : D → Prop} : Wo (inD d e) Q ↔ Wo (inT d e) fun b => Q (.bool b) := by
  unfold inD
  simp only [wo_bind, wo_some]
theorem wo_ninD {Q : D → Prop} : Wo (ninD d e) Q ↔ Wo (inT d e) fun b => Q (.bool (!b)) := by
  unfold ninD
  simp only [wo_bind, wo_some]
theorem is_n : isD d .none = some (.bool (isN d)) := by cases d <;> rfl
theorem isnt_n : isntD d .none = some (.bool (!isN d)) := by cases d <;> rfl
theorem is_bb : isD (.bool p) (.bool q) = some (.bool (decide (p = q))) := rfl
theorem isnt_bb : isntD (.bool p) (.bool q) = some (.bool (!decide (p = q))) := rfl
theorem bOf_b : bOf (.bool p) = some p := rfl
theorem iOf_i : iOf (.int i) = some i := rfl
theorem tru_b : truT (.bool p) = some p := rfl
theorem tru_n : truT .none = some false := rfl
theorem tru_i : truT (.int i) = some (i != 0) := rfl
theorem tru_l : truT (.list xs) = some (!xs.isEmpty) := rfl
theorem tru_t : truT (.tuple xs) = some (!xs.isEmpty) := rfl
theorem seq_l : seqOf (.list xs) = some xs := rfl
theorem seq_t : seqOf (.tuple xs) = some xs := rfl
theorem tup_l : tupF [.list xs] = some (.tuple xs) := rfl
theorem tup_t : tupF [.tuple xs] = some (.tuple xs) := rfl
theorem lst_l : lstF [.list xs] = some (.list xs) := rfl
theorem lst_t : lstF [.tuple xs] = some (.list xs) := rfl
theorem len_l : lenF [.list xs] = some (.int xs.length) := rfl
theorem len_t : lenF [.tuple xs] = some (.int xs.length) := rfl
theorem int_i : intF [.int i] = some (.int i) := rfl
theorem int_b : intF [.bool p] = some (.int (if p then 1 else 0)) := rfl
theorem abs_i : absF [.int i] = some (.int (if i < 0 then -i else i)) := rfl
theorem max_ii : maxF [.int i, .int j] = some (.int (if j > i then j else i)) := rfl
theorem min_ii : minF [.int i, .int j] = some (.int (if j < i then j else i)) := rfl
theorem ix_li : ixD (.list xs) (.int i) = ixA xs i := rfl
theorem ix_ti : ixD (.tuple xs) (.int i) = ixA xs i := rfl
theorem cut_l {l h : Option Int} : cutD (.list xs) l h = some (.list (cutA xs l h)) := rfl
theorem cut_t {l h : Option Int} : cutD (.tuple xs) l h = some (.tuple (cutA xs l h)) := rfl
theorem flat_i : flatD (.int i) = true := rfl
theorem flat_b : flatD (.bool p) = true := rfl
theorem flat_s : flatD (.str a) = true := rfl
theorem ix0 {α : Type} {x : α} {xs : List α} : ixA (x :: xs) 0 = some x := rfl
theorem ix1 {α : Type} {x y : α} {xs : List α} : ixA (x :: y :: xs) 1 = some y := rfl
theorem ix2 {α : Type} {x y z : α} {xs : List α} : ixA (x :: y :: z :: xs) 2 = some z := rfl
theorem isi_1 {T : String} {Q : D → Prop} : Wo (isiF T [d]) Q ↔ Wo (L2.kitB (tyD d) T) fun b => Q (.bool b) := by
  show Wo ((L2.kitB (tyD d) T).bind fun b => some (.bool b)) Q ↔ _
  simp only [wo_bind, wo_some]
theorem k_nb : L2.kitB "NoneType" "bool" = some false := by decide +kernel
theorem k_bb : L2.kitB "bool" "bool" = some true := by decide +kernel
theorem k_ib : L2.kitB "int" "bool" = some false := by decide +kernel
theorem k_sb : L2.kitB "str" "bool" = some false := by decide +kernel
theorem k_ni : L2.kitB "NoneType" "int" = some false := by decide +kernel
theorem k_bi : L2.kitB "bool" "int" = some true := by decide +kernel
theorem k_ii : L2.kitB "int" "int" = some true := by decide +kernel
theorem k_si : L2.kitB "str" "int" = some false := by decide +kernel
theorem k_ns : L2.kitB "NoneType" "str" = some false := by decide +kernel
theorem k_bs : L2.kitB "bool" "str" = some false := by decide +kernel
theorem k_is : L2.kitB "int" "str" = some false := by decide +kernel
theorem k_ss : L2.kitB "str" "str" = some true := by decide +kernel
theorem k_ll : L2.kitB "list" "list" = some true := by decide +kernel
theorem k_tt : L2.kitB "tuple" "tuple" = some true := by decide +kernel
theorem ty_n : tyD .none = "NoneType" := rfl
theorem ty_b : tyD (.bool p) = "bool" := rfl
theorem ty_i : tyD (.int i) = "int" := rfl
theorem ty_s : tyD (.str a) = "str" := rfl
theorem ty_l : tyD (.list xs) = "list" := rfl
theorem ty_t : tyD (.tuple xs) = "tuple" := rfl
theorem wm_enum {a : Md (List D)} {ρ : Env} {Q : List D → Env → Prop} : Wm (gEnum a) ρ Q ↔ Wm a ρ fun x ρ1 => Wo (enumOf x) fun ds => Q ds ρ1 := by
  show Wo ((a ρ).bind fun p => (enumOf p.1).bind fun ds => some (ds, p.2)) _ ↔ _
  unfold Wm
  simp only [wo_bind, wo_some]
theorem enum_l : enumOf [.list xs] = some (enumL 0 xs) := rfl
theorem enum_t : enumOf [.tuple xs] = some (enumL 0 xs) := rfl
theorem enumL_nil {n : Nat} : enumL n [] = [] := rfl
theorem enumL_cons {n : Nat} : enumL n (d :: xs) = .tuple [.int n, d] :: enumL (n + 1) xs := rfl
theorem wm_dic {gs : List (Md D × Md D)} {ρ : Env} {Q : D → Env → Prop} : Wm (gDic gs) ρ Q ↔ Wm (gKV gs) ρ fun es ρ1 => keysOk es = true ∧ Q (PyData.dict es) ρ1 := by
  show Wo ((gKV gs ρ).bind fun p => if keysOk p.1 = true then some (PyData.dict p.1, p.2) else none) _ ↔ _
  unfold Wm
  rw [wo_bind]
  refine Iff.of_eq (congrArg _ (funext fun p => ?_))
  by_cases h : keysOk p.1 = true
  · simp only [h, ↓reduceIte, wo_some, true_and]
  · simp only [h, ↓reduceIte, wo_none, false_and, Bool.false_eq_true]
theorem wm_kvn {ρ : Env} {Q : List (D × D) → Env → Prop} : Wm (gKV []) ρ Q ↔ Q [] ρ := wo_some
theorem wm_kvc {gk gv : Md D} {r : List (Md D × Md D)} {ρ : Env} {Q : List (D × D) → Env → Prop} : Wm (gKV ((gk, gv) :: r)) ρ Q ↔ Wm gk ρ fun k ρ1 => Wm gv ρ1 fun v ρ2 => Wm (gKV r) ρ2 fun es ρ3 => Q ((k, v) :: es) ρ3 := by
  show Wo ((gk ρ).bind fun p => (gv p.2).bind fun q => (gKV r q.2).bind fun z => some ((p.1, q.1) :: z.1, z.2)) _ ↔ _
  unfold Wm
  simp only [wo_bind, wo_some]
theorem seq_s : seqOf (.str a) = some (signsL a) := rfl
theorem mulT_si : mulT (.str a) (.int i) = if 0 ≤ i ∧ i ≤ 1000 ∧ a.length ≤ 1000 then some (.str (Txt.mul a i)) else none := rfl
theorem len_s : lenF [.str a] = if a.length ≤ 16777216 then some (.int a.length) else none := rfl
theorem ord_c {c : Nat} : ordF [.str ⟨#[c]⟩] = some (.int c) := rfl
theorem str_i : strF [.int i] = if i.natAbs.log2 < 1920 then some (.str (toString i)) else none := rfl
theorem k_lb : L2.kitB "list" "bool" = some false := by decide +kernel
theorem k_li : L2.kitB "list" "int" = some false := by decide +kernel
theorem k_ls : L2.kitB "list" "str" = some false := by decide +kernel
theorem k_tb : L2.kitB "tuple" "bool" = some false := by decide +kernel
theorem k_ti : L2.kitB "tuple" "int" = some false := by decide +kernel
theorem k_ts : L2.kitB "tuple" "str" = some false := by decide +kernel
theorem k_db : L2.kitB "dict" "bool" = some false := by decide +kernel
theorem k_di : L2.kitB "dict" "int" = some false := by decide +kernel
theorem k_ds : L2.kitB "dict" "str" = some false := by decide +kernel
theorem k_lt : L2.kitB "list" "tuple" = some false := by decide +kernel
theorem k_tl : L2.kitB "tuple" "list" = some false := by decide +kernel
theorem ty_d {es : List (D × D)} : tyD (.dict es) = "dict" := rfl
theorem wm_reve {a : Md D} {ρ : Env} {Q : List D → Env → Prop} : Wm (gReve a) ρ Q ↔ Wm a ρ fun x ρ1 => Wo (revOf x) fun ds => Q ds ρ1 := by
  show Wo ((a ρ).bind fun p => (revOf p.1).bind fun ds => some (ds, p.2)) _ ↔ _
  unfold Wm
  simp only [wo_bind, wo_some]
theorem rev_l : revOf (.list xs) = some xs.reverse := rfl
theorem rev_t : revOf (.tuple xs) = some xs.reverse := rfl
theorem wm_opBL {f : D → D → Option D} {i : Nat} {g : Md D} {ρ : Env} {Q : D → Env → Prop} : Wm (gOpBL f i g) ρ Q ↔ Wo (peekOf ρ[i]?) fun _ => Wm g ρ fun x ρ1 => Wo (peekOf ρ1[i]?) fun d => Wo (f d x) fun r => flatD r = true ∧ Q r ρ1 := by
  have e : ∀ ρ : Env, peek ρ i = peekOf ρ[i]? := fun ρ => rfl
  show Wo ((peek ρ i).bind fun _ => (g ρ).bind fun p => (peek p.2 i).bind fun d => (f d p.1).bind fun r => if flatD r = true then some (r, p.2) else none) _ ↔ _
  unfold Wm
  simp only [wo_bind, e]
  refine Iff.of_eq (congrArg _ (funext fun _ => congrArg _ (funext fun p => congrArg _ (funext fun d => congrArg _ (funext fun r => ?_)))))
  by_cases h : flatD r = true
  · simp only [h, ↓reduceIte, wo_some, true_and]
  · simp only [h, ↓reduceIte, wo_none, false_and, Bool.false_eq_true]
theorem repr_l : reprF [.list xs] = if reprOk (.list xs) = true then some (.str (PyData.list xs).shown) else none := rfl
theorem sort_l : sortF [.list xs] = if DnSo.sortOk xs = true then some (.list (xs.mergeSort DnSo.leD3)) else none := rfl
theorem sum_l : sumF [.list xs] = (numsOf xs).bind fun ns => some (.int ns.sum) := rfl
/-- those that pass a test -/
theorem lc_filterA {α : Type} {vs : List Nat} {tg : D → Env → Option Env} {tt : Md Bool} {te : Md D} (h f : α → D) (p : α → Bool) {ρ : Env} {Q : List D × Env → Prop} : ∀ (xs : List α), (∀ x ∈ xs, Wo (tg (h x) ρ) fun ρ1 => Wm tt ρ1 fun b ρ2 => b = p x ∧ (b = true → Wm te ρ2 fun y ρ3 => y = f x ∧ wipeE ρ3 vs = ρ) ∧ (b = false → wipeE ρ2 vs = ρ)) → Q ((xs.filter p).map f, ρ) → Wo (lcD vs tg tt te (xs.map h) ρ) Q
  | [], _, q => lc_nil.mpr q
  | d :: ds, hs, q => by
    rw [List.map_cons, lc_cons]
    refine wo_mono (hs d List.mem_cons_self) fun ρ1 h1 => ?_
    refine wo_mono h1 fun b h2 => ?_
    obtain ⟨h3, h4, h5⟩ := h2
    rw [List.filter_cons] at q
    rw [← h3] at q
    cases hb : b.1 with
    | true =>
      rw [hb] at q
      rw [if_pos rfl] at q ⊢
      refine wo_mono (h4 hb) fun y h6 => ?_
      dsimp only at h6 ⊢
      rw [h6.2]
      refine lc_filterA h f p (Q := fun r => Q (y.1 :: r.1, r.2)) ds (fun d' hd => hs d' (List.mem_cons_of_mem _ hd)) ?_
      rw [h6.1]
      exact q
    | false =>
      rw [hb] at q
      rw [if_neg (by decide)] at q ⊢
      rw [h5 hb]
      exact lc_filterA h f p ds (fun d' hd => hs d' (List.mem_cons_of_mem _ hd)) q
end
end Dm
set_option maxHeartbeats 4000000
/-! plain facts: values, rows, their order, indexes -/
namespace Lw
open PySem Dn Dm
theorem wo_ix {xs : List D} {i : Int} {Q : D → Prop} (h0 : 0 ≤ i) (h1 : i < xs.length) (q : ∀ x ∈ xs, Q x) : Wo (ixA xs i) Q := by
  unfold ixA
  rw [if_pos h0]
  have hl : i.toNat < xs.length := by omega
  rw [List.getElem?_eq_getElem hl, wo_some]
  exact q _ (List.getElem_mem hl)
/-- a value -/
def gv (d : D) : Prop := flatD d = true ∧ SeqAt.shaped d = true
theorem gv_none : gv .none := ⟨rfl, by decide⟩
theorem gv_bool (b : Bool) : gv (.bool b) := ⟨rfl, by cases b <;> decide⟩
theorem gv_int (i : Int) : gv (.int i) := ⟨rfl, by simp [SeqAt.shaped, PyData.canLay0, PyData.depth]⟩
theorem eqT_int (a b : Int) : eqT (.int a) (.int b) = some (decide (a = b)) := rfl
theorem eqT_str (a b : Str) : eqT (.str a) (.str b) = some (decide (a = b)) := rfl
theorem eqT_bool (a b : Bool) : eqT (.bool a) (.bool b) = some (decide (a = b)) := rfl
theorem ltT_int (a b : Int) : ltT (.int a) (.int b) = some (decide (a < b)) := rfl
theorem ltT_str (a b : Str) : ltT (.str a) (.str b) = some (decide (a.cps.toList < b.cps.toList)) := rfl
/-! ### the start of a draw -/
theorem log_ok {i j : Int} (a b : Nat) (ha : i.natAbs < 2 ^ a) (hb : j.natAbs < 2 ^ b) (h : a + b + 2 ≤ 1000000) : i.natAbs.log2 + j.natAbs.log2 < 1000000 := by
  have l : ∀ (n k : Nat), n < 2 ^ k → n.log2 ≤ k := fun n k h => by
    by_cases z : n = 0
    · subst z; simp
    · exact Nat.le_of_lt ((Nat.log2_lt z).mpr h)
  have h1 := l _ _ ha
  have h2 := l _ _ hb
  omega
theorem nab {m : Int} {b : Nat} (h0 : 0 ≤ m) (h : m < 2 ^ b) : m.natAbs < 2 ^ b := by
  have h2 : ((m.natAbs : Nat) : Int) = m := Int.natAbs_of_nonneg h0
  have h3 : ((m.natAbs : Nat) : Int) < ((2 ^ b : Nat) : Int) := by
    rw [h2]
    push_cast
    exact h
  exact Int.ofNat_lt.mp h3
/-! ### the order of values and of rows -/
def rk : D → Int
  | .none => 0
  | .bool b => 1 + (if b then 1 else 0)
  | .int _ => 3
  | _ => 4
def ltV (a b : D) : Bool := if rk a ≠ rk b then decide (rk a < rk b) else match a, b with
  | .int i, .int j => decide (i < j)
  | .str x, .str y => decide (x.cps.toList < y.cps.toList)
  | _, _ => false
def vo : D → D
  | .none => .tuple [.int 0, .int 0]
  | .bool b => .tuple [.int 1, .int (if b then 1 else 0)]
  | .int i => .tuple [.int 2, .int i]
  | d => .tuple [.int 3, d]
theorem gv_cases {d : D} (h : gv d) : d = .none ∨ (∃ b, d = .bool b) ∨ (∃ i, d = .int i) ∨ ∃ s, d = .str s := by
  cases d with
  | none => exact .inl rfl
  | bool b => exact .inr (.inl ⟨b, rfl⟩)
  | int i => exact .inr (.inr (.inl ⟨i, rfl⟩))
  | str s => exact .inr (.inr (.inr ⟨s, rfl⟩))
  | list _ => cases h.1
  | tuple _ => cases h.1
  | dict _ => cases h.1
theorem ltV_irr {a : D} (ha : gv a) : ltV a a = false := by
  unfold ltV
  rcases gv_cases ha with rfl | ⟨p, rfl⟩ | ⟨i, rfl⟩ | ⟨s, rfl⟩ <;> simp
theorem gv5 {d : D} (h : gv d) : d = .none ∨ d = .bool true ∨ d = .bool false ∨ (∃ i, d = .int i) ∨ ∃ s, d = .str s := by
  rcases gv_cases h with rfl | ⟨b, rfl⟩ | h | h
  · exact .inl rfl
  · cases b
    · exact .inr (.inr (.inl rfl))
    · exact .inr (.inl rfl)
  · exact .inr (.inr (.inr (.inl h)))
  · exact .inr (.inr (.inr (.inr h)))
theorem str_tri (s t : Str) : (s == t) = (!decide (s.cps.toList < t.cps.toList) && !decide (t.cps.toList < s.cps.toList)) := by
  by_cases h : s = t
  · subst h
    have : ¬ (s.cps.toList < s.cps.toList) := List.lt_irrefl _
    simp only [beq_self_eq_true, this, decide_false, Bool.not_false, Bool.and_self]
  · have h1 : (s == t) = false := by simpa using h
    rw [h1]
    by_cases h2 : s.cps.toList < t.cps.toList
    · simp only [h2, decide_true, Bool.not_true, Bool.false_and]
    · by_cases h3 : t.cps.toList < s.cps.toList
      · simp only [h3, decide_true, Bool.not_true, Bool.and_false]
      · exact absurd (PySem.W.str_of_cps (List.le_antisymm (List.not_lt.mp h3) (List.not_lt.mp h2))) h
/-- the same -/
theorem eqv_vo {a b : D} (ha : gv a) (hb : gv b) : PyData.eqv (vo a) (vo b) = (!ltV a b && !ltV b a) := by
  rcases gv5 ha with rfl | rfl | rfl | ⟨i, rfl⟩ | ⟨s, rfl⟩ <;> rcases gv5 hb with rfl | rfl | rfl | ⟨j, rfl⟩ | ⟨t, rfl⟩ <;> simp only [vo, PyData.eqv, PyData.eqvAll, ltV, rk] <;> first | rfl | skip
  · simp only [ne_eq, not_true_eq_false, ↓reduceIte, Bool.and_true, beq_self_eq_true, Bool.true_and]
    rw [Bool.eq_iff_iff]
    simp
    omega
  · simp only [ne_eq, not_true_eq_false, ↓reduceIte, Bool.and_true, beq_self_eq_true, Bool.true_and]
    exact str_tri s t
theorem ltB_vo {a b : D} (ha : gv a) (hb : gv b) (h : PyData.eqv (vo a) (vo b) = false) : DnLt.ltB (vo a) (vo b) = some (ltV a b) := by
  rcases gv5 ha with rfl | rfl | rfl | ⟨i, rfl⟩ | ⟨s, rfl⟩ <;> rcases gv5 hb with rfl | rfl | rfl | ⟨j, rfl⟩ | ⟨t, rfl⟩ <;> simp only [vo, PyData.eqv, PyData.eqvAll, ltV, rk, DnLt.ltB, DnLt.ltA] at h ⊢ <;> first | rfl | (exact absurd h (by decide)) | skip
  · simp only [beq_self_eq_true, ↓reduceIte, ne_eq, not_true_eq_false, Bool.and_true, Bool.true_and] at h ⊢
    exact if_neg (by rw [h]; decide)
  · simp only [beq_self_eq_true, ↓reduceIte, ne_eq, not_true_eq_false, Bool.and_true, Bool.true_and] at h ⊢
    exact if_neg (by rw [h]; decide)
/-- rows -/
def ltR : List D → List D → Bool
  | [], [] => false
  | [], _ :: _ => true
  | _ :: _, [] => false
  | x :: xs, y :: ys => if ltV x y = true then true else if ltV y x = true then false else ltR xs ys
theorem ltA_vo : ∀ {xs ys : List D}, (∀ v ∈ xs, gv v) → (∀ v ∈ ys, gv v) → DnLt.ltA (xs.map vo) (ys.map vo) = some (ltR xs ys)
  | [], [], _, _ => rfl
  | [], _ :: _, _, _ => rfl
  | _ :: _, [], _, _ => rfl
  | x :: xs, y :: ys, hx, hy => by
    have gx := hx x List.mem_cons_self
    have gy := hy y List.mem_cons_self
    have ih := ltA_vo (xs := xs) (ys := ys) (fun v hv => hx v (List.mem_cons_of_mem _ hv)) fun v hv => hy v (List.mem_cons_of_mem _ hv)
    rw [List.map_cons, List.map_cons, DnLt.ltA, ltR, ih]
    have e := eqv_vo gx gy
    cases h : PyData.eqv (vo x) (vo y) with
    | true =>
      rw [h] at e
      have e2 : ltV x y = false ∧ ltV y x = false := by simpa using e.symm
      simp [e2.1, e2.2]
    | false =>
      rw [h] at e
      rw [if_neg (by decide), ltB_vo gx gy h]
      cases h1 : ltV x y with
      | true => simp
      | false =>
        rw [h1] at e
        have e2 : ltV y x = true := by simpa using e.symm
        simp [e2]
theorem eqvAll_vo : ∀ {xs ys : List D}, (∀ v ∈ xs, gv v) → (∀ v ∈ ys, gv v) → PyData.eqvAll (xs.map vo) (ys.map vo) = (!ltR xs ys && !ltR ys xs)
  | [], [], _, _ => by simp [PyData.eqvAll, ltR]
  | [], _ :: _, _, _ => by simp [PyData.eqvAll, ltR]
  | _ :: _, [], _, _ => by simp [PyData.eqvAll, ltR]
  | x :: xs, y :: ys, hx, hy => by
    have gx := hx x List.mem_cons_self
    have gy := hy y List.mem_cons_self
    have ih := eqvAll_vo (xs := xs) (ys := ys) (fun v hv => hx v (List.mem_cons_of_mem _ hv)) fun v hv => hy v (List.mem_cons_of_mem _ hv)
    have e := eqv_vo gx gy
    rw [List.map_cons, List.map_cons, PyData.eqvAll, ltR, ltR, ih, e]
    cases h1 : ltV x y <;> cases h2 : ltV y x <;> simp
theorem shaped_row {xs : List D} (h : ∀ v ∈ xs, gv v) : SeqAt.shaped (.tuple (xs.map vo)) = true := by
  have h1 : ∀ {xs : List D}, (∀ v ∈ xs, gv v) → PyData.canLayAll0 (xs.map vo) = true ∧ PyData.depthAll (xs.map vo) ≤ 1 := by
    intro xs
    induction xs with
    | nil => exact fun _ => ⟨rfl, by decide⟩
    | cons x xs ih =>
      intro h
      obtain ⟨i1, i2⟩ := ih fun v hv => h v (List.mem_cons_of_mem _ hv)
      have gx := h x List.mem_cons_self
      have z : (vo x).canLay0 = true ∧ (vo x).depth ≤ 1 := by
        rcases gv_cases gx with rfl | ⟨b, rfl⟩ | ⟨i, rfl⟩ | ⟨s, rfl⟩
        · exact ⟨by simp [vo, PyData.canLay0, PyData.canLayAll0], by simp [vo, PyData.depth, PyData.depthAll]⟩
        · exact ⟨by simp [vo, PyData.canLay0, PyData.canLayAll0], by simp [vo, PyData.depth, PyData.depthAll]⟩
        · exact ⟨by simp [vo, PyData.canLay0, PyData.canLayAll0], by simp [vo, PyData.depth, PyData.depthAll]⟩
        · have hs : (PyData.str s).canLay0 = true := SeqAt.canLay_of_shaped gx.2
          exact ⟨by simpa [vo, PyData.canLay0, PyData.canLayAll0] using hs, by simp [vo, PyData.depth, PyData.depthAll]⟩
      rw [List.map_cons, PyData.canLayAll0, PyData.depthAll, z.1, i1]
      exact ⟨rfl, by omega⟩
  obtain ⟨h2, h3⟩ := h1 h
  unfold SeqAt.shaped
  rw [PyData.canLay0, PyData.depth, h2]
  simp
  omega
theorem shaped_vo {a : D} (h : gv a) : SeqAt.shaped (vo a) = true := by
  rcases gv_cases h with rfl | ⟨b, rfl⟩ | ⟨i, rfl⟩ | ⟨s, rfl⟩
  · simp [vo, SeqAt.shaped, PyData.canLay0, PyData.canLayAll0, PyData.depth, PyData.depthAll]
  · simp [vo, SeqAt.shaped, PyData.canLay0, PyData.canLayAll0, PyData.depth, PyData.depthAll]
  · simp [vo, SeqAt.shaped, PyData.canLay0, PyData.canLayAll0, PyData.depth, PyData.depthAll]
  · have hs : (PyData.str s).canLay0 = true := SeqAt.canLay_of_shaped h.2
    simpa [vo, SeqAt.shaped, PyData.canLay0, PyData.canLayAll0, PyData.depth, PyData.depthAll] using hs
theorem vo_tup (a : D) : ∃ ds, vo a = .tuple ds := by cases a <;> exact ⟨_, rfl⟩
theorem eqT_tt {xs ys : List D} (h1 : SeqAt.shaped (.tuple xs) = true) (h2 : SeqAt.shaped (.tuple ys) = true) : eqT (.tuple xs) (.tuple ys) = some (PyData.eqv (.tuple xs) (.tuple ys)) := by
  show (if _ then _ else _) = _
  rw [if_pos ⟨h1, h2⟩]
theorem ltT_tt {xs ys : List D} (h1 : SeqAt.shaped (.tuple xs) = true) (h2 : SeqAt.shaped (.tuple ys) = true) : ltT (.tuple xs) (.tuple ys) = DnLt.ltB (.tuple xs) (.tuple ys) := by
  show (if _ then _ else _) = _
  rw [if_pos ⟨h1, h2⟩]
theorem eqT_vo {a b : D} (ha : gv a) (hb : gv b) : eqT (vo a) (vo b) = some (!ltV a b && !ltV b a) := by
  obtain ⟨xs, e1⟩ := vo_tup a
  obtain ⟨ys, e2⟩ := vo_tup b
  have h1 := shaped_vo ha
  have h2 := shaped_vo hb
  have h3 := eqv_vo ha hb
  rw [e1] at h1 h3 ⊢
  rw [e2] at h2 h3 ⊢
  rw [eqT_tt h1 h2, h3]
theorem ltA_eq : ∀ xs ys : List D, PyData.eqvAll xs ys = true → DnLt.ltA xs ys = some false
  | [], [], _ => rfl
  | [], _ :: _, h => by simp [PyData.eqvAll] at h
  | _ :: _, [], h => by simp [PyData.eqvAll] at h
  | x :: xs, y :: ys, h => by
    rw [PyData.eqvAll, Bool.and_eq_true] at h
    rw [DnLt.ltA, if_pos h.1]
    exact ltA_eq xs ys h.2
theorem ltT_vo {a b : D} (ha : gv a) (hb : gv b) : ltT (vo a) (vo b) = some (ltV a b) := by
  have h4 : DnLt.ltB (vo a) (vo b) = some (ltV a b) := by
    have h3 := eqv_vo ha hb
    cases h : PyData.eqv (vo a) (vo b) with
    | false => exact ltB_vo ha hb h
    | true =>
      rw [h] at h3
      have e2 : ltV a b = false ∧ ltV b a = false := by simpa using h3.symm
      rw [e2.1]
      obtain ⟨xs, e3⟩ := vo_tup a
      obtain ⟨ys, e4⟩ := vo_tup b
      rw [e3, e4] at h ⊢
      rw [PyData.eqv] at h
      rw [DnLt.ltB]
      exact ltA_eq xs ys h
  obtain ⟨xs, e1⟩ := vo_tup a
  obtain ⟨ys, e2⟩ := vo_tup b
  have h1 := shaped_vo ha
  have h2 := shaped_vo hb
  rw [e1] at h1 h4 ⊢
  rw [e2] at h2 h4 ⊢
  rw [ltT_tt h1 h2, h4]
theorem ixA_nat {α : Type} (xs : List α) (i : Nat) : ixA xs (i : Int) = xs[i]? := by
  unfold ixA
  rw [if_pos (Int.natCast_nonneg i)]
  rfl
theorem rng_eq (n : Nat) : rngL 0 n = (List.range' 0 n).map fun i : Nat => PyData.int i := by
  unfold rngL
  rw [List.range_eq_range']
  exact List.map_congr_left fun i _ => by rw [Int.zero_add]
theorem small_nat {n : Nat} (h : n ≤ 1000000000) : small62 (n : Int) = true := by
  unfold small62
  exact decide_eq_true ⟨by omega, by omega⟩
/-- a row of values -/
def gr (r : D) : Prop := ∃ xs, r = .tuple xs ∧ xs.length ≤ 1000 ∧ ∀ v ∈ xs, gv v
theorem cut_mem {α : Type} {xs : List α} {l h : Option Int} {v : α} (hv : v ∈ cutA xs l h) : v ∈ xs := List.mem_of_mem_drop (List.mem_of_mem_take hv)
theorem cut_len {α : Type} (xs : List α) (l h : Option Int) : (cutA xs l h).length ≤ xs.length := by
  unfold cutA
  rw [List.length_take, List.length_drop]
  omega
end Lw
set_option maxHeartbeats 4000000
/-! fields, types, places -/
namespace Lw
open PySem Dn Dm
/-- the three types -/
def kd (k : Str) : Prop := k = "flag" ∨ k = "whole" ∨ k = "text"
def tyB (k : Str) : D → Bool
  | .none => true
  | .bool _ => decide (k = "flag")
  | .int _ => decide (k = "whole")
  | .str _ => decide (k = "text")
  | _ => false
def tyV : D → D
  | .none => .none
  | .bool _ => .str "flag"
  | .int _ => .str "whole"
  | _ => .str "text"
/-- a text that may stand in a value -/
def signOk (c : Nat) : Bool := decide ((32 ≤ c ∧ c ≤ 126) ∧ c ≠ 37)
def textB (s : Str) : Bool := decide (s.length ≤ 40) && s.cps.toList.all signOk
/-- a value of the document -/
def isV : D → Bool
  | .none => true
  | .bool _ => true
  | .int i => decide (-1000000000 ≤ i ∧ i ≤ 1000000000)
  | .str s => textB s
  | _ => false
theorem isV_int {i : Int} (h : -1000000000 ≤ i ∧ i ≤ 1000000000) : isV (.int i) = true := decide_eq_true h
/-- a field -/
def fdD (p : Str × Str) : D := .tuple [.str p.1, .str p.2]
theorem fdD_inj : ∀ {as bs : List (Str × Str)}, as.map fdD = bs.map fdD → as = bs
  | [], [], _ => rfl
  | [], _ :: _, h => (by cases h)
  | _ :: _, [], h => (by cases h)
  | (a, b) :: as, (c, d) :: bs, h => by
    rw [List.map_cons, List.map_cons] at h
    injection h with h1 h2
    simp only [fdD, PyData.tuple.injEq, List.cons.injEq, PyData.str.injEq, and_true] at h1
    rw [h1.1, h1.2, fdD_inj h2]
def fitsB : List D → List (Str × Str) → Bool
  | [], [] => true
  | v :: vs, p :: ps => tyB p.2 v && fitsB vs ps
  | _, _ => false
def colAt : Nat → List (Str × Str) → Str → D
  | _, [], _ => .none
  | i, p :: ps, x => if p.1 = x then .int i else colAt (i + 1) ps x
theorem fits_len : ∀ {vs : List D} {ps : List (Str × Str)}, fitsB vs ps = true → vs.length = ps.length
  | [], [], _ => rfl
  | _ :: vs, _ :: ps, h => congrArg (· + 1) (fits_len (Bool.and_eq_true_iff.mp h).2)
  | [], _ :: _, h => (by cases h)
  | _ :: _, [], h => (by cases h)
theorem fits_snoc : ∀ {vs : List D} {ps : List (Str × Str)} {v : D} {p : Str × Str}, fitsB vs ps = true → tyB p.2 v = true → fitsB (vs ++ [v]) (ps ++ [p]) = true
  | [], [], v, p, _, h => by simp [fitsB, h]
  | w :: vs, q :: ps, v, p, g, h => by
    have g' := Bool.and_eq_true_iff.mp g
    exact Bool.and_eq_true_iff.mpr ⟨g'.1, fits_snoc g'.2 h⟩
  | [], _ :: _, _, _, h, _ => (by cases h)
  | _ :: _, [], _, _, h, _ => (by cases h)
theorem fits_get : ∀ {vs : List D} {ps : List (Str × Str)} {i : Nat} {v : D} {p : Str × Str}, fitsB vs ps = true → vs[i]? = some v → ps[i]? = some p → tyB p.2 v = true
  | v :: vs, p :: ps, 0, _, _, h, e1, e2 => by
    cases e1
    cases e2
    exact (Bool.and_eq_true_iff.mp h).1
  | _ :: vs, _ :: ps, i + 1, _, _, h, e1, e2 => fits_get (i := i) (Bool.and_eq_true_iff.mp h).2 e1 e2
  | [], _, _, _, _, _, e1, _ => (by simp at e1)
  | _ :: _, [], _, _, _, _, _, e2 => (by simp at e2)
/-- one value exchanged -/
theorem fits_swap : ∀ {vs : List D} {ps : List (Str × Str)} {i : Nat} {v : D} {p : Str × Str}, fitsB vs ps = true → ps[i]? = some p → fitsB (vs.take i ++ [v] ++ vs.drop (i + 1)) ps = tyB p.2 v
  | w :: vs, p :: ps, 0, v, _, h, e => by
    cases e
    have h' := (Bool.and_eq_true_iff.mp h).2
    simp [fitsB, h']
  | w :: vs, q :: ps, i + 1, v, p, h, e => by
    have h' := Bool.and_eq_true_iff.mp h
    have ih := fits_swap (i := i) (v := v) h'.2 e
    simp only [List.take_succ_cons, List.drop_succ_cons, List.cons_append, fitsB, h'.1, Bool.true_and]
    exact ih
  | [], [], _, _, _, _, e => (by simp at e)
  | [], _ :: _, _, _, _, h, _ => (by cases h)
  | _ :: _, [], _, _, _, h, _ => (by cases h)
theorem cut_take {α : Type} (xs : List α) (i : Nat) : cutA xs none (some (i : Int)) = xs.take i := by
  unfold cutA
  rw [HT.sIx_none, HT.sIx_nat, List.drop_zero, Nat.sub_zero]
  rw [List.take_eq_take_iff]
  omega
theorem cut_drop {α : Type} (xs : List α) (i : Nat) : cutA xs (some (i : Int)) none = xs.drop i := by
  unfold cutA
  rw [HT.sIx_none, HT.sIx_nat]
  rw [List.take_of_length_le (by rw [List.length_drop]; omega)]
  by_cases h : i ≤ xs.length
  · rw [Nat.min_eq_left h]
  · rw [Nat.min_eq_right (by omega), List.drop_length, List.drop_eq_nil_of_le (by omega)]
/-- how often: min(M, max(1, l)) -/
theorem times {l m : Nat} {M : Int} (hM : M = m) (h1 : 1 ≤ m) : ∃ n : Nat, (if (if (l : Int) > 1 then (l : Int) else 1) < M then (if (l : Int) > 1 then (l : Int) else 1) else M) = (n : Int) ∧ n ≤ m := by
  subst hM
  by_cases h1 : (l : Int) > 1
  · by_cases h2 : (l : Int) < m
    · exact ⟨l, by simp only [h1, h2, ↓reduceIte], by omega⟩
    · exact ⟨m, by simp only [h1, h2, ↓reduceIte], by omega⟩
  · by_cases h2 : (1 : Int) < m
    · exact ⟨1, by simp only [h1, h2, ↓reduceIte]; rfl, by omega⟩
    · exact ⟨m, by simp only [h1, h2, ↓reduceIte], by omega⟩
theorem cut_drop1 {α : Type} (xs : List α) (i : Nat) : cutA xs (some ((i : Int) + 1)) none = xs.drop (i + 1) := cut_drop xs (i + 1)
theorem cut_take1 {α : Type} (xs : List α) (i : Nat) : cutA xs none (some (1 + (i : Int))) = xs.take (1 + i) := by
  have := cut_take xs (1 + i)
  rwa [Int.natCast_add] at this
/-- a remainder as a number of places -/
theorem modN (s : Int) {m : Int} (h : 0 < m) : ∃ k : Nat, s % m = (k : Int) ∧ (k : Int) < m := ⟨(s % m).toNat, by have := Int.emod_nonneg s (show m ≠ 0 by omega); omega, by have := Int.emod_nonneg s (show m ≠ 0 by omega); have := Int.emod_lt_of_pos s h; omega⟩
theorem kinds_ok {x : D} (h : x ∈ ([.str "flag", .str "whole", .str "text"] : List D)) : ∃ k, x = .str k ∧ kd k := by
  simp only [List.mem_cons, List.not_mem_nil, or_false] at h
  rcases h with rfl | rfl | rfl
  · exact ⟨_, rfl, .inl rfl⟩
  · exact ⟨_, rfl, .inr (.inl rfl)⟩
  · exact ⟨_, rfl, .inr (.inr rfl)⟩
theorem rng_mem {n : Nat} : ∀ d ∈ rngL 0 n, ∃ i : Nat, d = .int i ∧ i < n := fun d hd => by
  rw [rng_eq] at hd
  obtain ⟨i, hi, rfl⟩ := List.mem_map.mp hd
  exact ⟨i, rfl, by simpa using hi⟩
theorem rng_len {n : Nat} {lo : Int} : (rngL lo n).length = n := by simp [rngL]
theorem col_at : ∀ {ps : List (Str × Str)} {i j : Nat} {p : Str × Str}, (ps.map (·.1)).Nodup → ps[j]? = some p → colAt i ps p.1 = .int (i + j : Nat)
  | q :: ps, i, 0, p, _, e => by
    cases e
    rw [colAt, if_pos rfl]
    rfl
  | q :: ps, i, j + 1, p, h, e => by
    rw [List.map_cons, List.nodup_cons] at h
    have e' : ps[j]? = some p := e
    have hm : p.1 ∈ ps.map (·.1) := List.mem_map.mpr ⟨p, List.mem_of_getElem? e', rfl⟩
    rw [colAt, if_neg (fun z => h.1 (by rw [z]; exact hm)), col_at h.2 e']
    have e3 : i + 1 + j = i + (j + 1) := by omega
    rw [e3]
  | [], _, _, _, _, e => (by simp at e)
theorem col_none : ∀ {ps : List (Str × Str)} {i : Nat} {x : Str}, x ∉ ps.map (·.1) → colAt i ps x = .none
  | [], _, _, _ => rfl
  | p :: ps, i, x, h => by
    rw [List.map_cons, List.mem_cons, not_or] at h
    rw [colAt, if_neg (fun z => h.1 z.symm), col_none h.2]
theorem ltV_eq {a b : D} (ha : gv a) (hb : gv b) (h1 : ltV a b = false) (h2 : ltV b a = false) : a = b := by
  unfold ltV at h1 h2
  rcases gv5 ha with rfl | rfl | rfl | ⟨i, rfl⟩ | ⟨s, rfl⟩ <;> rcases gv5 hb with rfl | rfl | rfl | ⟨j, rfl⟩ | ⟨t, rfl⟩ <;> first | rfl | (exfalso; revert h1 h2; simp [rk]; done) | skip
  · simp only [rk, ne_eq, not_true_eq_false, ↓reduceIte, decide_eq_false_iff_not] at h1 h2
    rw [show i = j by omega]
  · simp only [rk, ne_eq, not_true_eq_false, ↓reduceIte, decide_eq_false_iff_not] at h1 h2
    rw [PySem.W.str_of_cps (List.le_antisymm (List.not_lt.mp h2) (List.not_lt.mp h1))]
theorem ltR_irr : ∀ {xs : List D}, (∀ v ∈ xs, gv v) → ltR xs xs = false
  | [], _ => rfl
  | x :: xs, h => by
    rw [ltR, ltV_irr (h x List.mem_cons_self), ltR_irr fun v hv => h v (List.mem_cons_of_mem _ hv)]
    rfl
theorem ltR_eq : ∀ {xs ys : List D}, (∀ v ∈ xs, gv v) → (∀ v ∈ ys, gv v) → ltR xs ys = false → ltR ys xs = false → xs = ys
  | [], [], _, _, _, _ => rfl
  | [], _ :: _, _, _, h, _ => (by cases h)
  | _ :: _, [], _, _, _, h => (by cases h)
  | x :: xs, y :: ys, hx, hy, h1, h2 => by
    rw [ltR] at h1 h2
    have gx := hx x List.mem_cons_self
    have gy := hy y List.mem_cons_self
    cases q1 : ltV x y with
    | true => rw [q1] at h1; cases h1
    | false =>
      cases q2 : ltV y x with
      | true => rw [q2] at h2; cases h2
      | false =>
        rw [q1, q2] at h1 h2
        rw [ltV_eq gx gy q1 q2, ltR_eq (fun v hv => hx v (List.mem_cons_of_mem _ hv)) (fun v hv => hy v (List.mem_cons_of_mem _ hv)) h1 h2]
theorem small_log {i j : Int} (hi : -1000000 ≤ i ∧ i ≤ 1000000) (hj : -1000000 ≤ j ∧ j ≤ 1000000) : i.natAbs.log2 + j.natAbs.log2 < 1000000 := log_ok 20 20 (by omega) (by omega) (by decide)
/-- a pair of whole numbers -/
def prD (p : Int × Int) : D := .tuple [.int p.1, .int p.2]
theorem shaped_pr (p : Int × Int) : SeqAt.shaped (prD p) = true := by simp [SeqAt.shaped, prD, PyData.canLay0, PyData.canLayAll0, PyData.depth, PyData.depthAll]
theorem prs_all : ∀ ps : List (Int × Int), PyData.canLayAll0 (ps.map prD) = true ∧ PyData.depthAll (ps.map prD) ≤ 1
  | [] => ⟨rfl, by decide⟩
  | p :: ps => by
    obtain ⟨h1, h2⟩ := prs_all ps
    refine ⟨?_, ?_⟩
    · simp [PyData.canLayAll0, h1, prD, PyData.canLay0]
    · simp only [List.map_cons, PyData.depthAll, prD, PyData.depth] at h2 ⊢
      omega
theorem shaped_prs (ps : List (Int × Int)) : SeqAt.shaped (.list (ps.map prD)) = true := by
  obtain ⟨h1, h2⟩ := prs_all ps
  unfold SeqAt.shaped
  rw [PyData.canLay0, PyData.depth, h1]
  simp
  omega
theorem eqv_pr (p q : Int × Int) : PyData.eqv (prD p) (prD q) = decide (p = q) := by
  obtain ⟨a, b⟩ := p
  obtain ⟨c, d⟩ := q
  simp only [prD, PyData.eqv, PyData.eqvAll, Bool.and_true]
  by_cases h1 : a = c
  · by_cases h2 : b = d <;> simp [h1, h2]
  · simp [h1]
theorem in_prs (p : Int × Int) (ps : List (Int × Int)) : inT (prD p) (.list (ps.map prD)) = some (decide (p ∈ ps)) := by
  show (if SeqAt.shaped (prD p) = true ∧ SeqAt.shaped (.list (ps.map prD)) = true then some ((ps.map prD).any fun z => PyData.eqv z (prD p)) else none) = _
  rw [if_pos ⟨shaped_pr p, shaped_prs ps⟩]
  congr 1
  induction ps with
  | nil => rfl
  | cons q ps ih =>
    rw [List.map_cons, List.any_cons, ih, eqv_pr]
    by_cases h : q = p
    · simp [h]
    · simp [h, Ne.symm h]
theorem eq_prs (ps : List (Int × Int)) : eqT (.list (ps.map prD)) (.list (ps.map prD)) = some true := by
  have h : PyData.eqvAll (ps.map prD) (ps.map prD) = true := by
    induction ps with
    | nil => rfl
    | cons q ps ih => rw [List.map_cons, PyData.eqvAll, ih, eqv_pr]; simp
  show (if SeqAt.shaped (.list (ps.map prD)) = true ∧ SeqAt.shaped (.list (ps.map prD)) = true then some (PyData.eqv (.list (ps.map prD)) (.list (ps.map prD))) else none) = _
  rw [if_pos ⟨shaped_prs ps, shaped_prs ps⟩, PyData.eqv, h]
open DnSo in
theorem sortOk_prs (ps : List (Int × Int)) (h : ps.length ≤ 16777216) : sortOk (ps.map prD) = true := by
  have hc : ∀ a b : Int × Int, (DnLt.ltB (prD a) (prD b)).isSome = true := by
    rintro ⟨a, b⟩ ⟨c, d⟩
    simp only [prD, DnLt.ltB, DnLt.ltA, PyData.eqv]
    by_cases h1 : a = c
    · by_cases h2 : b = d <;> simp [h1, h2]
    · simp [h1]
  unfold sortOk
  simp only [Bool.and_eq_true, List.all_eq_true, decide_eq_true_eq, Bool.or_eq_true, List.length_map, List.mem_map]
  refine ⟨⟨⟨h, ?_⟩, ?_⟩, .inl (.inl ?_)⟩
  · rintro d ⟨p, _, rfl⟩
    exact ⟨⟨rfl, by simp [prD, PyData.canLay0, PyData.canLayAll0]⟩, by simp [prD, PyData.depth, PyData.depthAll]⟩
  · rintro d ⟨p, _, rfl⟩ e ⟨q, _, rfl⟩
    exact hc p q
  · rintro d ⟨p, _, rfl⟩
    rfl
open DnSo in
theorem sort_prs {ps qs : List (Int × Int)} (hp : qs.Perm ps) (hs : qs.Pairwise fun x y => x.1 < y.1) : (ps.map prD).mergeSort leD3 = qs.map prD := by
  refine (sort_one (ds := ps.map prD) (out := qs.map prD) (fun d hd => ?_) (hp.map prD) (List.pairwise_map.mpr (hs.imp fun {x y} h => ?_))).symm
  · obtain ⟨p, _, rfl⟩ := List.mem_map.mp hd
    rfl
  · simp only [prD, cmp3, cmpL]
    rw [if_neg (by omega), if_pos h]
    rfl
open DnSo in
theorem sortOk_ints (ns : List Int) (h : ns.length ≤ 16777216) : sortOk (ns.map PyData.int) = true := by
  unfold sortOk
  simp only [Bool.and_eq_true, List.all_eq_true, decide_eq_true_eq, Bool.or_eq_true, List.length_map, List.mem_map]
  refine ⟨⟨⟨h, ?_⟩, ?_⟩, .inr ?_⟩
  · rintro d ⟨p, _, rfl⟩
    exact ⟨⟨rfl, rfl⟩, by simp [PyData.depth]⟩
  · rintro d ⟨p, _, rfl⟩ e ⟨q, _, rfl⟩
    rfl
  · rintro d ⟨p, _, rfl⟩
    rfl
open DnSo in
/-- sorted whole numbers: the same numbers in order -/
theorem sort_ints (ns : List Int) : ∃ ms : List Int, (ns.map PyData.int).mergeSort leD3 = ms.map PyData.int ∧ ms.Perm ns ∧ ms.Pairwise (· ≤ ·) := by
  refine ⟨ns.mergeSort fun a b => decide (a ≤ b), ?_, List.mergeSort_perm _ _, ?_⟩
  · refine (sort_one (ds := ns.map PyData.int) (fun d hd => ?_) ((List.mergeSort_perm _ _).map PyData.int) (List.pairwise_map.mpr ((List.pairwise_mergeSort (le := fun a b : Int => decide (a ≤ b)) ?_ ?_ ns).imp fun {x y} h => ?_))).symm
    · obtain ⟨p, _, rfl⟩ := List.mem_map.mp hd
      rfl
    · intro a b c h1 h2
      simp at h1 h2 ⊢
      omega
    · intro a b
      simp
      omega
    · have h' : x ≤ y := of_decide_eq_true h
      simp only [cmp3]
      rw [if_neg (by omega)]
      split <;> rfl
  · refine (List.pairwise_mergeSort (le := fun a b : Int => decide (a ≤ b)) ?_ ?_ ns).imp fun {x y} h => of_decide_eq_true h
    · intro a b c h1 h2
      simp at h1 h2 ⊢
      omega
    · intro a b
      simp
      omega
theorem ixA_last {α : Type} (xs : List α) (x : α) : ixA (xs ++ [x]) (-1) = some x := by
  unfold ixA
  rw [if_neg (by decide), if_pos (by simp; omega)]
  have e : (-1 + ((xs ++ [x]).length : Int)).toNat = xs.length := by simp; omega
  rw [e]
  simp
end Lw
set_option maxHeartbeats 4000000
/-! data that can be shown; sums; the first of the least -/
namespace Lw
open PySem Dn Dm
mutual
/-- small leaves -/
def smD : D → Bool
  | .none => true
  | .bool _ => true
  | .int i => decide (i.natAbs < 1000000000000)
  | .str s => PyData.strOk s && decide (s.length ≤ 100) && s.cps.toList.all fun c => decide (c < 16 ^ 8)
  | .list xs => smL xs
  | .tuple xs => smL xs
  | .dict _ => false
def smL : List D → Bool
  | [] => true
  | x :: xs => smD x && smL xs
end
mutual
def nodes : D → Nat
  | .list xs => nodesL xs
  | .tuple xs => nodesL xs
  | _ => 1
def nodesL : List D → Nat
  | [] => 0
  | x :: xs => nodes x + 1 + nodesL xs
end
theorem int_log {i : Int} (h : i.natAbs < 1000000000000) : i.natAbs.log2 < 60 := by
  by_cases z : i.natAbs = 0
  · rw [z]; decide
  · exact (Nat.log2_lt z).mpr (by omega)
mutual
theorem sm_ok : ∀ d : D, smD d = true → d.canLay0 = true ∧ PyData.showable d = true ∧ PyData.leavesShort 13 d = true ∧ d.weight ≤ 101 * nodes d
  | .none, _ => ⟨rfl, rfl, rfl, by simp [PyData.weight, nodes]⟩
  | .bool _, _ => ⟨rfl, rfl, rfl, by simp [PyData.weight, nodes]⟩
  | .int i, h => by
    have h' : i.natAbs < 1000000000000 := by simpa [smD] using h
    have hl := int_log h'
    refine ⟨rfl, ?_, ?_, ?_⟩
    · simp only [PyData.showable, decide_eq_true_eq]
      omega
    · simp only [PyData.leavesShort, decide_eq_true_eq]
      exact PyData.shown_int_le (by omega)
    · simp only [PyData.weight, nodes]
      split <;> omega
  | .str s, h => by
    simp only [smD, Bool.and_eq_true, decide_eq_true_eq] at h
    refine ⟨?_, rfl, ?_, ?_⟩
    · simpa [PyData.canLay0] using h.1.1
    · simpa only [PyData.leavesShort] using h.2
    · have h1 : s.cps.size ≤ 100 := h.1.2
      simp only [PyData.weight, nodes]
      omega
  | .list xs, h => by
    obtain ⟨h1, h2, h3, h4⟩ := smL_ok xs (by simpa [smD] using h)
    exact ⟨by simpa [PyData.canLay0] using h1, by simpa [PyData.showable] using h2, by simpa [PyData.leavesShort] using h3, by simpa [PyData.weight, nodes] using h4⟩
  | .tuple xs, h => by
    obtain ⟨h1, h2, h3, h4⟩ := smL_ok xs (by simpa [smD] using h)
    exact ⟨by simpa [PyData.canLay0] using h1, by simpa [PyData.showable] using h2, by simpa [PyData.leavesShort] using h3, by simpa [PyData.weight, nodes] using h4⟩
  | .dict _, h => by simp [smD] at h
theorem smL_ok : ∀ ds : List D, smL ds = true → PyData.canLayAll0 ds = true ∧ PyData.showableAll ds = true ∧ PyData.leavesShortAll 13 ds = true ∧ PyData.weightAll ds ≤ 101 * nodesL ds
  | [], _ => ⟨rfl, rfl, rfl, by simp [PyData.weightAll]⟩
  | d :: ds, h => by
    simp only [smL, Bool.and_eq_true] at h
    obtain ⟨h1, h2, h3, h4⟩ := sm_ok d h.1
    obtain ⟨i1, i2, i3, i4⟩ := smL_ok ds h.2
    refine ⟨by simp [PyData.canLayAll0, h1, i1], by simp [PyData.showableAll, h2, i2], by simp [PyData.leavesShortAll, h3, i3], ?_⟩
    simp only [PyData.weightAll, nodesL]
    omega
end
theorem repr_ok {d : D} (h : smD d = true) (hd : d.depth ≤ 8) (hn : nodes d ≤ 10000) : reprOk d = true := by
  obtain ⟨h1, h2, h3, h4⟩ := sm_ok d h
  unfold reprOk
  simp only [h1, h2, h3, Bool.and_true, Bool.true_and, Bool.and_eq_true, decide_eq_true_eq]
  refine ⟨hd, Nat.le_trans h4 (Nat.le_trans (Nat.mul_le_mul_left 101 hn) (by decide))⟩
theorem sm_of {d : D} (g : gv d) (h : isV d = true) : smD d = true := by
  rcases gv_cases g with rfl | ⟨b, rfl⟩ | ⟨i, rfl⟩ | ⟨s, rfl⟩
  · rfl
  · rfl
  · have := of_decide_eq_true h
    simp only [smD, decide_eq_true_eq]
    omega
  · have h1 := Bool.and_eq_true_iff.mp h
    have h2 : s.length ≤ 40 := of_decide_eq_true h1.1
    have h3 : PyData.strOk s = true := by simpa [PyData.canLay0] using SeqAt.canLay_of_shaped g.2
    simp only [smD, h3, Bool.true_and, Bool.and_eq_true, decide_eq_true_eq, List.all_eq_true]
    refine ⟨by omega, fun c hc => ?_⟩
    have h4 := (List.all_eq_true.mp h1.2) c hc
    have h5 := of_decide_eq_true h4
    have : (16 : Nat) ^ 8 = 4294967296 := by decide
    omega
theorem depth_v {d : D} (g : gv d) : d.depth = 0 := by
  rcases gv_cases g with rfl | ⟨b, rfl⟩ | ⟨i, rfl⟩ | ⟨s, rfl⟩ <;> simp [PyData.depth]
theorem nodes_v {d : D} (g : gv d) : nodes d = 1 := by
  rcases gv_cases g with rfl | ⟨b, rfl⟩ | ⟨i, rfl⟩ | ⟨s, rfl⟩ <;> simp [nodes]
theorem smL_map {α : Type} {f : α → D} {xs : List α} (h : ∀ x ∈ xs, smD (f x) = true) : smL (xs.map f) = true := by
  induction xs with
  | nil => rfl
  | cons x xs ih => simp [smL, h x List.mem_cons_self, ih fun y hy => h y (List.mem_cons_of_mem _ hy)]
theorem depthL_map {α : Type} {f : α → D} {xs : List α} {n : Nat} (h : ∀ x ∈ xs, (f x).depth ≤ n) : PyData.depthAll (xs.map f) ≤ n := by
  induction xs with
  | nil => simp [PyData.depthAll]
  | cons x xs ih =>
    have h1 := h x List.mem_cons_self
    have h2 := ih fun y hy => h y (List.mem_cons_of_mem _ hy)
    simp only [List.map_cons, PyData.depthAll]
    omega
theorem nodesL_map {α : Type} {f : α → D} {xs : List α} {n : Nat} (h : ∀ x ∈ xs, nodes (f x) ≤ n) : nodesL (xs.map f) ≤ (n + 1) * xs.length := by
  induction xs with
  | nil => simp [nodesL]
  | cons x xs ih =>
    have h1 := h x List.mem_cons_self
    have h2 := ih fun y hy => h y (List.mem_cons_of_mem _ hy)
    simp only [List.map_cons, nodesL, List.length_cons, Nat.mul_add, Nat.mul_one]
    omega
theorem ltB_vo' {a b : D} (ha : gv a) (hb : gv b) : DnLt.ltB (vo a) (vo b) = some (ltV a b) := by
  have h3 := eqv_vo ha hb
  cases h : PyData.eqv (vo a) (vo b) with
  | false => exact ltB_vo ha hb h
  | true =>
    rw [h] at h3
    have e2 : ltV a b = false ∧ ltV b a = false := by simpa using h3.symm
    rw [e2.1]
    obtain ⟨xs, e3⟩ := vo_tup a
    obtain ⟨ys, e4⟩ := vo_tup b
    rw [e3, e4] at h ⊢
    rw [PyData.eqv] at h
    rw [DnLt.ltB]
    exact ltA_eq xs ys h
open DnSo in
theorem ord_vo {d : D} (g : gv d) : ord0 (vo d) = true ∧ (vo d).canLay0 = true ∧ (vo d).depth ≤ 8 ∧ fst1 isI (vo d) = true := by
  have hs := SeqAt.canLay_of_shaped (shaped_vo g)
  rcases gv_cases g with rfl | ⟨b, rfl⟩ | ⟨i, rfl⟩ | ⟨s, rfl⟩ <;> exact ⟨rfl, hs, by simp [vo, PyData.depth, PyData.depthAll], rfl⟩
open DnSo in
theorem cmp_vo {a b : D} (ha : gv a) (hb : gv b) : (cmp3 (vo a) (vo b) == .lt) = ltV a b := (cmp_of_ltB _ _ _ (ord_vo ha).1 (ord_vo hb).1 (ltB_vo' ha hb)).symm
open DnSo in
theorem sortOk_vo {vs : List D} (h : ∀ v ∈ vs, gv v) (hl : vs.length ≤ 16777216) : sortOk (vs.map vo) = true := by
  unfold sortOk
  simp only [Bool.and_eq_true, List.all_eq_true, decide_eq_true_eq, Bool.or_eq_true, List.length_map, List.mem_map]
  refine ⟨⟨⟨hl, ?_⟩, ?_⟩, .inl (.inl ?_)⟩
  · rintro d ⟨p, hp, rfl⟩
    have := ord_vo (h p hp)
    exact ⟨⟨this.1, this.2.1⟩, this.2.2.1⟩
  · rintro d ⟨p, hp, rfl⟩ e ⟨q, hq, rfl⟩
    rw [ltB_vo' (h p hp) (h q hq)]
    rfl
  · rintro d ⟨p, hp, rfl⟩
    exact (ord_vo (h p hp)).2.2.2
open DnSo in
/-- the sorted orders: those of the values in order -/
theorem sort_vo {vs : List D} (h : ∀ v ∈ vs, gv v) : ∃ us : List D, (vs.map vo).mergeSort leD3 = us.map vo ∧ us.Perm vs ∧ us.Pairwise fun x y => ltV y x = false := by
  have hp := List.mergeSort_perm (vs.map vo) leD3
  obtain ⟨us, e, hu⟩ : ∃ us : List D, (vs.map vo).mergeSort leD3 = us.map vo ∧ us.Perm vs := by
    have : ∀ (l : List D) (vs : List D), l.Perm (vs.map vo) → ∃ us : List D, l = us.map vo ∧ us.Perm vs := by
      intro l
      induction l with
      | nil => intro vs hp; have := hp.symm.eq_nil; exact ⟨[], rfl, by rw [List.map_eq_nil_iff.mp this]⟩
      | cons a l ih =>
        intro vs hp
        have ha : a ∈ vs.map vo := hp.mem_iff.mp List.mem_cons_self
        obtain ⟨v, hv, rfl⟩ := List.mem_map.mp ha
        obtain ⟨s, t, rfl⟩ := List.append_of_mem hv
        have h2 : (vo v :: l).Perm (vo v :: ((s ++ t).map vo)) := hp.trans (by
          rw [List.map_append, List.map_cons, List.map_append]
          exact List.perm_middle)
        obtain ⟨us, e, hu⟩ := ih (s ++ t) ((List.perm_cons _).mp h2)
        exact ⟨v :: us, by rw [e]; rfl, (hu.cons v).trans List.perm_middle.symm⟩
    exact this _ _ hp
  refine ⟨us, e, hu, ?_⟩
  have O := swo3
  have hpw := List.pairwise_mergeSort (le := leD3) (fun a b c h1 h2 => ?_) (fun a b => ?_) (vs.map vo)
  · rw [e] at hpw
    have hpw' := List.pairwise_map.mp hpw
    refine List.Pairwise.imp_of_mem (fun {x y} hx hy hxy => ?_) hpw'
    have gx := h x (hu.mem_iff.mp hx)
    have gy := h y (hu.mem_iff.mp hy)
    rw [← cmp_vo gy gx]
    simpa [leD3] using hxy
  · simp only [leD3, Bool.not_eq_true'] at h1 h2 ⊢
    exact O.tr a b c h1 h2
  · unfold leD3
    cases c : (cmp3 b a == .lt) with
    | false => rfl
    | true => rw [O.asym b a c]; rfl
theorem ofString_inj {a b : String} (h : Str.ofString a = Str.ofString b) : a = b := by
  have h1 := congrArg (fun s : Str => s.cps.toList) h
  simp only [PyProof.Rows.signs_ofString] at h1
  have h2 : a.toList = b.toList := (List.map_inj_right (fun x y e => Char.toNat_inj.mp e)).mp h1
  exact String.toList_inj.mp h2
theorem str_ne {a b : String} (h : a ≠ b) : (Str.ofString a = Str.ofString b) = False := eq_false fun z => h (ofString_inj z)
end Lw
set_option maxHeartbeats 4000000
namespace Lw
open PySem PySem.Spec PyProof.Rows L2 Dn
def topS (i : Nat) : Stmt := PySem.Challenge.pw_tideweir_k17_aggregates.main.body.getD i (.Pass ⟨0, 0, 0, 0⟩)
abbrev s__law_rank : Stmt := topS 18
abbrev N__law_rank : List Str := ["value"]
theorem sc__law_rank : FnScope N__law_rank ["value"] (defScope s__law_rank) := ⟨rfl, rfl, rfl, by decide +kernel, rfl, by decide +kernel, by decide +kernel⟩
def g__law_rank : Sd := (sSeq (sIf (gTst (gBin isD (gVar 0) (gC .none))) (sRet (gC (.int 0))) sNext)
  (sSeq (sIf (gTru (gApp (isiF "bool") (gCons (gVar 0) gNil))) (sRet (gBin addD (gC (.int 1)) (gApp intF (gCons (gVar 0) gNil)))) sNext)
  (sSeq (sIf (gTru (gApp (isiF "int") (gCons (gVar 0) gNil))) (sRet (gC (.int 3))) sNext)
  (sRet (gC (.int 4))))))
def f__law_rank : List D → Option D := runV 1 g__law_rank
abbrev s__law_before : Stmt := topS 19
abbrev N__law_before : List Str := ["first", "second"]
theorem sc__law_before : FnScope N__law_before ["first", "second"] (defScope s__law_before) := ⟨rfl, rfl, rfl, by decide +kernel, rfl, by decide +kernel, by decide +kernel⟩
def g__law_before : Sd := (sSeq (sIf (gTst (gBin neD (gApp f__law_rank (gCons (gVar 0) gNil)) (gApp f__law_rank (gCons (gVar 1) gNil)))) (sRet (gBin ltD (gApp f__law_rank (gCons (gVar 0) gNil)) (gApp f__law_rank (gCons (gVar 1) gNil)))) sNext)
  (sSeq (sIf (gTst (gBin ltD (gApp f__law_rank (gCons (gVar 0) gNil)) (gC (.int 3)))) (sRet (gC (.bool false))) sNext)
  (sRet (gBin ltD (gVar 0) (gVar 1)))))
def f__law_before : List D → Option D := runV 2 g__law_before
abbrev s__law_aggregate : Stmt := topS 29
abbrev N__law_aggregate : List Str := ["word", "values", "known", "count", "best", "pair", "total"]
theorem sc__law_aggregate : FnScope N__law_aggregate ["word", "values"] (defScope s__law_aggregate) := ⟨rfl, rfl, rfl, by decide +kernel, rfl, by decide +kernel, by decide +kernel⟩
def g__law_aggregate : Sd := (sSeq (sIf (gTst (gBin eqD (gVar 0) (gC (.str "first")))) (sRet (gBin ixD (gBin ixD (gVar 1) (gC (.int 0))) (gC (.int 0)))) sNext)
  (sSeq (sIf (gTst (gBin eqD (gVar 0) (gC (.str "last")))) (sRet (gBin ixD (gBin ixD (gVar 1) (gBin subD (gApp lenF (gCons (gVar 1) gNil)) (gC (.int 1)))) (gC (.int 0)))) sNext)
  (sSeq (sOwn 2 (gLc [5] (gSeq (gVar 1)) (gTN 5) (gTst (gBin isntD (gBin ixD (gVar 5) (gC (.int 0))) (gC .none))) (gVar 5)))
  (sSeq (sSet 3 (gApp sumF (gCons (gLc [5] (gSeq (gFrz 2)) (gTN 5) gTrue (gBin ixD (gVar 5) (gC (.int 1)))) gNil)))
  (sSeq (sIf (gTst (gBin eqD (gVar 0) (gC (.str "count")))) (sRet (gBin ixD (gApp mkLst (gCons (gVar 3) (gCons (gC .none) gNil))) (gApp intF (gCons (gBin gtD (gVar 3) (gC (.int 1000000000))) gNil)))) sNext)
  (sSeq (sIf (gTst (gOpBL eqD 2 (gApp mkLst gNil))) (sRet (gC .none)) sNext)
  (sSeq (sSet 4 (gBin ixD (gIxB 2 (gC (.int 0))) (gC (.int 0))))
  (sSeq (sFor (gSeq (gFrz 2)) (gTN 5)
  (sSeq (sIf (gAnd (gTst (gBin eqD (gVar 0) (gC (.str "least")))) (gTru (gApp f__law_before (gCons (gBin ixD (gVar 5) (gC (.int 0))) (gCons (gVar 4) gNil))))) (sSet 4 (gBin ixD (gVar 5) (gC (.int 0)))) sNext)
  (sIf (gAnd (gTst (gBin eqD (gVar 0) (gC (.str "most")))) (gTru (gApp f__law_before (gCons (gVar 4) (gCons (gBin ixD (gVar 5) (gC (.int 0))) gNil))))) (sSet 4 (gBin ixD (gVar 5) (gC (.int 0)))) sNext)))
  (sSeq (sIf (gTst (gBin inD (gVar 0) (gApp mkTup (gCons (gC (.str "least")) (gCons (gC (.str "most")) gNil))))) (sRet (gVar 4)) sNext)
  (sSeq (sSet 6 (gApp sumF (gCons (gLc [5] (gSeq (gFrz 2)) (gTN 5) gTrue (gBin mulD (gBin ixD (gVar 5) (gC (.int 0))) (gBin ixD (gVar 5) (gC (.int 1))))) gNil)))
  (sSeq (sIf (gTst (gBin eqD (gVar 0) (gC (.str "mean")))) (sSet 6 (gBin fdivD (gVar 6) (gVar 3))) sNext)
  (sRet (gBin ixD (gApp mkLst (gCons (gVar 6) (gCons (gC .none) gNil))) (gApp intF (gCons (gOrV (gBin gtD (gVar 6) (gC (.int 1000000000))) (gBin ltD (gVar 6) (gUn negD (gC (.int 1000000000))))) gNil)))))))))))))))
def f__law_aggregate : List D → Option D := runV 7 g__law_aggregate
abbrev s__law_cell : Stmt := topS 10
abbrev N__law_cell : List Str := ["script", "k"]
theorem sc__law_cell : FnScope N__law_cell ["script", "k"] (defScope s__law_cell) := ⟨rfl, rfl, rfl, by decide +kernel, rfl, by decide +kernel, by decide +kernel⟩
def g__law_cell : Sd := (sSeq (sIf (gTst (gBin ltD (gVar 1) (gApp lenF (gCons (gVar 0) gNil)))) (sRet (gBin ixD (gVar 0) (gVar 1))) sNext)
  (sRet (gC (.int 0))))
def f__law_cell : List D → Option D := runV 2 g__law_cell
abbrev s__law_digit : Stmt := topS 12
abbrev N__law_digit : List Str := ["state", "many", "digit"]
theorem sc__law_digit : FnScope N__law_digit ["state", "many"] (defScope s__law_digit) := ⟨rfl, rfl, rfl, by decide +kernel, rfl, by decide +kernel, by decide +kernel⟩
def g__law_digit : Sd := (sSeq (sSet 2 (gBin modD (gApp intF (gCons (gIxB 0 (gC (.int 0))) gNil)) (gVar 1)))
  (sSeq (sSetIx 0 (gBin fdivD (gIxB 0 (gC (.int 0))) (gVar 1)) (gC (.int 0)))
  (sRet (gVar 2))))
def f__law_digit : D → List D → Option (D × D) := runIO 3 g__law_digit
abbrev s__law_start : Stmt := topS 11
abbrev N__law_start : List Str := ["cell", "k", "prime", "mixed", "number", "turn"]
theorem sc__law_start : FnScope N__law_start ["cell", "k"] (defScope s__law_start) := ⟨rfl, rfl, rfl, by decide +kernel, rfl, by decide +kernel, by decide +kernel⟩
def g__law_start : Sd := (sSeq (sSet 2 (gC (.int 618970019642690137449562111)))
  (sSeq (sIf (gTst (gChain ltD ltD (gUn negD (gC (.int 1000000000000000000))) (gVar 0) (gC (.int 1000000000000000000)))) (sSeq (sSet 3 (gBin modD (gApp intF (gCons (gBin addD (gBin mulS (gVar 0) (gC (.int 2654435761))) (gBin mulS (gBin addD (gVar 1) (gC (.int 1))) (gC (.int 6700417)))) gNil)) (gVar 2)))
  (sSeq (sSet 4 (gC (.int 0)))
  (sSeq (sFor (gRng1 (gCons (gC (.int 4)) gNil)) (gTN 5)
  (sSeq (sSet 3 (gBin modD (gApp intF (gCons (gBin addD (gBin addD (gBin addD (gBin mulD (gVar 3) (gVar 3)) (gBin mulD (gC (.int 7)) (gVar 3))) (gVar 1)) (gVar 5)) gNil)) (gVar 2)))
  (sSet 4 (gBin addD (gBin mulD (gVar 4) (gVar 2)) (gVar 3)))))
  (sRof (gApp mkLst (gCons (gVar 4) gNil)))))) sNext)
  (sRof (gApp mkLst (gCons (gApp absF (gCons (gVar 0) gNil)) gNil)))))
def f__law_start : List D → Option D := runF 6 g__law_start
abbrev s__law_value : Stmt := topS 13
abbrev N__law_value : List Str := ["state", "kind"]
theorem sc__law_value : FnScope N__law_value ["state", "kind"] (defScope s__law_value) := ⟨rfl, rfl, rfl, by decide +kernel, rfl, by decide +kernel, by decide +kernel⟩
def g__law_value : Sd := (sSeq (sIf (gTst (gBin eqD (gCallIO 0 f__law_digit (gCons (gC (.int 5)) gNil)) (gC (.int 0)))) (sRet (gC .none)) sNext)
  (sSeq (sIf (gTst (gBin eqD (gVar 1) (gC (.str "flag")))) (sRet (gBin eqD (gCallIO 0 f__law_digit (gCons (gC (.int 2)) gNil)) (gC (.int 1)))) sNext)
  (sSeq (sIf (gTst (gBin eqD (gVar 1) (gC (.str "whole")))) (sRet (gBin ixD (gApp mkLst (gCons (gC (.int 0)) (gCons (gC (.int 1)) (gCons (gC (.int 2)) (gCons (gUn negD (gC (.int 1))) (gCons (gC (.int 7)) (gCons (gC (.int 999999999)) (gCons (gC (.int 1)) (gCons (gC (.int 0)) gNil))))))))) (gCallIO 0 f__law_digit (gCons (gC (.int 8)) gNil)))) sNext)
  (sRet (gBin ixD (gApp mkTup (gCons (gC (.str "")) (gCons (gC (.str "a")) (gCons (gC (.str "b")) (gCons (gC (.str "a")) (gCons (gC (.str "b")) gNil)))))) (gCallIO 0 f__law_digit (gCons (gC (.int 5)) gNil)))))))
def f__law_value : D → List D → Option (D × D) := runIO 2 g__law_value
abbrev s_bounded : Stmt := topS 4
abbrev N_bounded : List Str := ["number"]
theorem sc_bounded : FnScope N_bounded ["number"] (defScope s_bounded) := ⟨rfl, rfl, rfl, by decide +kernel, rfl, by decide +kernel, by decide +kernel⟩
def g_bounded : Sd := (sSeq (sIf (gTst (gBin gtD (gApp absF (gCons (gVar 0) gNil)) (gC (.int 1000000000)))) (sRet (gC .none)) sNext)
  (sRet (gVar 0)))
def f_bounded : List D → Option D := runV 1 g_bounded
abbrev s_value_order : Stmt := topS 1
abbrev N_value_order : List Str := ["value"]
theorem sc_value_order : FnScope N_value_order ["value"] (defScope s_value_order) := ⟨rfl, rfl, rfl, by decide +kernel, rfl, by decide +kernel, by decide +kernel⟩
def g_value_order : Sd := (sSeq (sIf (gTst (gBin isD (gVar 0) (gC .none))) (sRet (gApp mkTup (gCons (gC (.int 0)) (gCons (gC (.int 0)) gNil)))) sNext)
  (sSeq (sIf (gTru (gApp (isiF "bool") (gCons (gVar 0) gNil))) (sRet (gApp mkTup (gCons (gC (.int 1)) (gCons (gApp intF (gCons (gVar 0) gNil)) gNil)))) sNext)
  (sSeq (sIf (gTru (gApp (isiF "int") (gCons (gVar 0) gNil))) (sRet (gApp mkTup (gCons (gC (.int 2)) (gCons (gVar 0) gNil)))) sNext)
  (sRet (gApp mkTup (gCons (gC (.int 3)) (gCons (gVar 0) gNil)))))))
def f_value_order : List D → Option D := runV 1 g_value_order
abbrev s_extreme : Stmt := topS 7
abbrev N_extreme : List Str := ["known", "word", "ordered", "wanted", "value", "weight"]
theorem sc_extreme : FnScope N_extreme ["known", "word"] (defScope s_extreme) := ⟨rfl, rfl, rfl, by decide +kernel, rfl, by decide +kernel, by decide +kernel⟩
def g_extreme : Sd := (sSeq (sSet 2 (gApp sortF (gCons (gLc [4, 5] (gSeq (gVar 0)) (gTTup 2 (gTCons (gTN 4) (gTCons (gTN 5) gTNil))) gTrue (gApp f_value_order (gCons (gVar 4) gNil))) gNil)))
  (sSeq (sSet 3 (gIfE (gTst (gBin eqD (gVar 1) (gC (.str "least")))) (gBin ixD (gVar 2) (gC (.int 0))) (gBin ixD (gVar 2) (gUn negD (gC (.int 1))))))
  (sSeq (sFor (gSeq (gVar 0)) (gTTup 2 (gTCons (gTN 4) (gTCons (gTN 5) gTNil)))
  (sIf (gTst (gBin eqD (gApp f_value_order (gCons (gVar 4) gNil)) (gVar 3))) (sRet (gVar 4)) sNext))
  (sRet (gC .none)))))
def f_extreme : List D → Option D := runV 6 g_extreme
abbrev s_mean_of : Stmt := topS 6
abbrev N_mean_of : List Str := ["total", "count"]
theorem sc_mean_of : FnScope N_mean_of ["total", "count"] (defScope s_mean_of) := ⟨rfl, rfl, rfl, by decide +kernel, rfl, by decide +kernel, by decide +kernel⟩
def g_mean_of : Sd := (sSeq (sIf (gTst (gBin eqD (gVar 1) (gC (.int 0)))) (sRet (gC .none)) sNext)
  (sRet (gApp f_bounded (gCons (gBin fdivD (gVar 0) (gVar 1)) gNil))))
def f_mean_of : List D → Option D := runV 2 g_mean_of
abbrev s_aggregate : Stmt := topS 8
abbrev N_aggregate : List Str := ["word", "values", "known", "count", "total", "value", "weight"]
theorem sc_aggregate : FnScope N_aggregate ["word", "values"] (defScope s_aggregate) := ⟨rfl, rfl, rfl, by decide +kernel, rfl, by decide +kernel, by decide +kernel⟩
def g_aggregate : Sd := (sSeq (sIf (gTst (gBin eqD (gVar 0) (gC (.str "first")))) (sRet (gBin ixD (gBin ixD (gVar 1) (gC (.int 0))) (gC (.int 0)))) sNext)
  (sSeq (sIf (gTst (gBin eqD (gVar 0) (gC (.str "last")))) (sRet (gBin ixD (gBin ixD (gVar 1) (gUn negD (gC (.int 1)))) (gC (.int 0)))) sNext)
  (sSeq (sOwn 2 (gLc [5, 6] (gSeq (gVar 1)) (gTTup 2 (gTCons (gTN 5) (gTCons (gTN 6) gTNil))) (gTst (gBin isntD (gVar 5) (gC .none))) (gApp mkTup (gCons (gVar 5) (gCons (gVar 6) gNil)))))
  (sSeq (sSet 3 (gApp sumF (gCons (gLc [5, 6] (gSeq (gFrz 2)) (gTTup 2 (gTCons (gTN 5) (gTCons (gTN 6) gTNil))) gTrue (gVar 6)) gNil)))
  (sSeq (sIf (gTst (gBin eqD (gVar 0) (gC (.str "count")))) (sRet (gApp f_bounded (gCons (gVar 3) gNil))) sNext)
  (sSeq (sIf (gTst (gOpBL eqD 2 (gApp mkLst gNil))) (sRet (gC .none)) sNext)
  (sSeq (sIf (gOr (gTst (gBin eqD (gVar 0) (gC (.str "least")))) (gTst (gBin eqD (gVar 0) (gC (.str "most"))))) (sRet (gApp f_extreme (gCons (gFrz 2) (gCons (gVar 0) gNil)))) sNext)
  (sSeq (sSet 4 (gApp sumF (gCons (gLc [5, 6] (gSeq (gFrz 2)) (gTTup 2 (gTCons (gTN 5) (gTCons (gTN 6) gTNil))) gTrue (gBin mulD (gVar 5) (gVar 6))) gNil)))
  (sSeq (sIf (gTst (gBin eqD (gVar 0) (gC (.str "sum")))) (sRet (gApp f_bounded (gCons (gVar 4) gNil))) sNext)
  (sRet (gApp f_mean_of (gCons (gVar 4) (gCons (gVar 3) gNil)))))))))))))
def f_aggregate : List D → Option D := runV 7 g_aggregate
abbrev s_law : Stmt := topS 31
abbrev N_law : List Str := ["script", "words", "k", "state", "word", "kind", "values", "j", "kept", "told", "due", "pair"]
theorem sc_law : FnScope N_law ["script"] (defScope s_law) := ⟨rfl, rfl, rfl, by decide +kernel, rfl, by decide +kernel, by decide +kernel⟩
def g_law : Sd := (sSeq (sSet 1 (gApp mkLst (gCons (gC (.str "count")) (gCons (gC (.str "sum")) (gCons (gC (.str "least")) (gCons (gC (.str "most")) (gCons (gC (.str "mean")) (gCons (gC (.str "first")) (gCons (gC (.str "last")) gNil)))))))))
  (sSeq (sFor (gRng1 (gCons (gApp minF (gCons (gC (.int 20)) (gCons (gApp maxF (gCons (gC (.int 1)) (gCons (gApp lenF (gCons (gVar 0) gNil)) gNil))) gNil))) gNil)) (gTN 2)
  (sSeq (sOwn 3 (gApp f__law_start (gCons (gApp f__law_cell (gCons (gVar 0) (gCons (gVar 2) gNil))) (gCons (gVar 2) gNil))))
  (sSeq (sSet 4 (gBin ixD (gVar 1) (gCallIO 3 f__law_digit (gCons (gC (.int 7)) gNil))))
  (sSeq (sSet 5 (gC (.str "whole")))
  (sSeq (sIf (gTst (gBin ninD (gVar 4) (gApp mkTup (gCons (gC (.str "sum")) (gCons (gC (.str "mean")) gNil))))) (sSet 5 (gBin ixD (gApp mkLst (gCons (gC (.str "flag")) (gCons (gC (.str "whole")) (gCons (gC (.str "text")) gNil)))) (gCallIO 3 f__law_digit (gCons (gC (.int 3)) gNil)))) sNext)
  (sSeq (sOwn 6 (gApp mkLst gNil))
  (sSeq (sFor (gRng1 (gCons (gBin addD (gC (.int 1)) (gCallIO 3 f__law_digit (gCons (gC (.int 6)) gNil))) gNil)) (gTN 7)
  (sApp 6 (gApp mkTup (gCons (gCallIO 3 f__law_value (gCons (gVar 5) gNil)) (gCons (gBin ixD (gApp mkLst (gCons (gC (.int 1)) (gCons (gC (.int 2)) (gCons (gC (.int 5)) (gCons (gC (.int 1000000000)) gNil))))) (gBin fdivD (gCallIO 3 f__law_digit (gCons (gC (.int 9)) gNil)) (gC (.int 3)))) gNil)))))
  (sSeq (sSet 8 (gApp reprF (gCons (gFrz 6) gNil)))
  (sSeq (sSet 9 (gApp f_aggregate (gCons (gVar 4) (gCons (gFrz 6) gNil))))
  (sSeq (sSet 10 (gApp f__law_aggregate (gCons (gVar 4) (gCons (gFrz 6) gNil))))
  (sSeq (sIf (gOr (gTst (gBin neD (gApp f__law_rank (gCons (gVar 9) gNil)) (gApp f__law_rank (gCons (gVar 10) gNil)))) (gOr (gTru (gApp f__law_before (gCons (gVar 9) (gCons (gVar 10) gNil)))) (gTru (gApp f__law_before (gCons (gVar 10) (gCons (gVar 9) gNil)))))) (sRet (gC (.bool false))) sNext)
  (sSeq (sIf (gTst (gBin neD (gApp reprF (gCons (gFrz 6) gNil)) (gVar 8))) (sRet (gC (.bool false))) sNext)
  (sIf (gTst (gBin neD (gApp f_aggregate (gCons (gC (.str "count")) (gCons (gLc [11] (gSeq (gFrz 6)) (gTN 11) gTrue (gApp mkTup (gCons (gC (.int 0)) (gCons (gBin ixD (gVar 11) (gC (.int 1))) gNil)))) gNil))) (gApp f__law_aggregate (gCons (gC (.str "count")) (gCons (gLc [11] (gSeq (gFrz 6)) (gTN 11) gTrue (gApp mkTup (gCons (gC (.int 0)) (gCons (gBin ixD (gVar 11) (gC (.int 1))) gNil)))) gNil))))) (sRet (gC (.bool false))) sNext)))))))))))))
  (sRet (gC (.bool true)))))
def f_law : List D → Option D := runV 12 g_law
structure Txt (K : PySem.W.Frag) (mg : Str → Option Value) where
  a__law_rank : Addr
  d__law_rank : FuncData
  F__law_rank : Fun K "_law_rank" "_law_rank" s__law_rank a__law_rank d__law_rank
  m__law_rank : mg "_law_rank" = some (.ref a__law_rank)
  a__law_before : Addr
  d__law_before : FuncData
  F__law_before : Fun K "_law_before" "_law_before" s__law_before a__law_before d__law_before
  m__law_before : mg "_law_before" = some (.ref a__law_before)
  a__law_aggregate : Addr
  d__law_aggregate : FuncData
  F__law_aggregate : Fun K "_law_aggregate" "_law_aggregate" s__law_aggregate a__law_aggregate d__law_aggregate
  m__law_aggregate : mg "_law_aggregate" = some (.ref a__law_aggregate)
  a__law_cell : Addr
  d__law_cell : FuncData
  F__law_cell : Fun K "_law_cell" "_law_cell" s__law_cell a__law_cell d__law_cell
  m__law_cell : mg "_law_cell" = some (.ref a__law_cell)
  a__law_digit : Addr
  d__law_digit : FuncData
  F__law_digit : Fun K "_law_digit" "_law_digit" s__law_digit a__law_digit d__law_digit
  m__law_digit : mg "_law_digit" = some (.ref a__law_digit)
  a__law_start : Addr
  d__law_start : FuncData
  F__law_start : Fun K "_law_start" "_law_start" s__law_start a__law_start d__law_start
  m__law_start : mg "_law_start" = some (.ref a__law_start)
  a__law_value : Addr
  d__law_value : FuncData
  F__law_value : Fun K "_law_value" "_law_value" s__law_value a__law_value d__law_value
  m__law_value : mg "_law_value" = some (.ref a__law_value)
  a_bounded : Addr
  d_bounded : FuncData
  F_bounded : Fun K "bounded" "bounded" s_bounded a_bounded d_bounded
  m_bounded : mg "bounded" = some (.ref a_bounded)
  a_value_order : Addr
  d_value_order : FuncData
  F_value_order : Fun K "value_order" "value_order" s_value_order a_value_order d_value_order
  m_value_order : mg "value_order" = some (.ref a_value_order)
  a_extreme : Addr
  d_extreme : FuncData
  F_extreme : Fun K "extreme" "extreme" s_extreme a_extreme d_extreme
  m_extreme : mg "extreme" = some (.ref a_extreme)
  a_mean_of : Addr
  d_mean_of : FuncData
  F_mean_of : Fun K "mean_of" "mean_of" s_mean_of a_mean_of d_mean_of
  m_mean_of : mg "mean_of" = some (.ref a_mean_of)
  a_aggregate : Addr
  d_aggregate : FuncData
  F_aggregate : Fun K "aggregate" "aggregate" s_aggregate a_aggregate d_aggregate
  m_aggregate : mg "aggregate" = some (.ref a_aggregate)
  a_law : Addr
  d_law : FuncData
  F_law : Fun K "law" "law" s_law a_law d_law
  m_law : mg "law" = some (.ref a_law)
  z_abs : mg "abs" = none
  z_bool : mg "bool" = none
  z_int : mg "int" = none
  z_isinstance : mg "isinstance" = none
  z_len : mg "len" = none
  z_list : mg "list" = none
  z_max : mg "max" = none
  z_min : mg "min" = none
  z_range : mg "range" = none
  z_repr : mg "repr" = none
  z_sorted : mg "sorted" = none
  z_str : mg "str" = none
  z_sum : mg "sum" = none
  z_tuple : mg "tuple" = none
  c_MOST_NUMBER : ∃ t, mg "MOST_NUMBER" = some (.int 1000000000 t)
section
variable {P : Program} {w : World} {K : PySem.W.Frag} {mg : Str → Option Value} {base : Heap} (T : Txt K mg)
theorem bd__law_rank : Binds K T.d__law_rank ["value"] [] := T.F__law_rank.binds (ps := ["value"]) fun _ _ _ _ _ _ us hl => match us, hl with | [_], _ => rfl
theorem ok__law_rank : FnOk P w K mg base CX0 1 T.a__law_rank T.d__law_rank ["value"] (spV K 1 f__law_rank) := fn_V (N := N__law_rank) (g := g__law_rank) T.F__law_rank sc__law_rank fun cdv A outer s H E hr =>
  (dss_cons (ds_if (dt_cmp op_isD (dv 0) de_non (nomark _)) (dss_one (ds_ret de_int)) dss_nil)
    (dss_cons (ds_if (dt_tru (de_isi T.z_isinstance (by rfl) (by rfl) T.z_bool bt_bool (dv 0))) (dss_one (ds_ret (de_bin op_addD de_int (de_callTy call_intD (by rfl) T.z_int bt_int (da_cs (dv 0) da_nl))))) dss_nil)
    (dss_cons (ds_if (dt_tru (de_isi T.z_isinstance (by rfl) (by rfl) T.z_int bt_int (dv 0))) (dss_one (ds_ret de_int)) dss_nil)
    (dss_one (ds_ret de_int)))))
theorem bd__law_before : Binds K T.d__law_before ["first", "second"] [] := T.F__law_before.binds (ps := ["first", "second"]) fun _ _ _ _ _ _ us hl => match us, hl with | [_, _], _ => rfl
theorem ok__law_before : FnOk P w K mg base CX0 2 T.a__law_before T.d__law_before ["first", "second"] (spV K 2 f__law_before) := fn_V (N := N__law_before) (g := g__law_before) T.F__law_before sc__law_before fun cdv A outer s H E hr =>
  (dss_cons (ds_if (dt_cmp (op_neD' hr.units) (de_call (ok__law_rank T) (hr.mono (by decide)) (by rfl) T.m__law_rank T.F__law_rank.kp (bd__law_rank T) (by rfl) (da_cs (dv 0) da_nl) (len_cons len_nil)) (de_call (ok__law_rank T) (hr.mono (by decide)) (by rfl) T.m__law_rank T.F__law_rank.kp (bd__law_rank T) (by rfl) (da_cs (dv 1) da_nl) (len_cons len_nil)) (nomark _)) (dss_one (ds_ret (de_cmp (op_ltD hr.units) (de_call (ok__law_rank T) (hr.mono (by decide)) (by rfl) T.m__law_rank T.F__law_rank.kp (bd__law_rank T) (by rfl) (da_cs (dv 0) da_nl) (len_cons len_nil)) (de_call (ok__law_rank T) (hr.mono (by decide)) (by rfl) T.m__law_rank T.F__law_rank.kp (bd__law_rank T) (by rfl) (da_cs (dv 1) da_nl) (len_cons len_nil)) (nomark _)))) dss_nil)
    (dss_cons (ds_if (dt_cmp (op_ltD hr.units) (de_call (ok__law_rank T) (hr.mono (by decide)) (by rfl) T.m__law_rank T.F__law_rank.kp (bd__law_rank T) (by rfl) (da_cs (dv 0) da_nl) (len_cons len_nil)) de_int (nomark _)) (dss_one (ds_ret de_bl)) dss_nil)
    (dss_one (ds_ret (de_cmp (op_ltD hr.units) (dv 0) (dv 1) (nomark _))))))
theorem bd__law_aggregate : Binds K T.d__law_aggregate ["word", "values"] [] := T.F__law_aggregate.binds (ps := ["word", "values"]) fun _ _ _ _ _ _ us hl => match us, hl with | [_, _], _ => rfl
theorem ok__law_aggregate : FnOk P w K mg base CX0 3 T.a__law_aggregate T.d__law_aggregate ["word", "values"] (spV K 2 f__law_aggregate) := fn_V (N := N__law_aggregate) (g := g__law_aggregate) T.F__law_aggregate sc__law_aggregate fun cdv A outer s H E hr =>
  (dss_cons (ds_if (dt_cmp (op_eqD' hr.units) (dv 0) de_str (nomark _)) (dss_one (ds_ret (de_ix ix_D (de_ix ix_D (dv 1) de_int (fun _ _ => rfl)) de_int (fun _ _ => rfl)))) dss_nil)
    (dss_cons (ds_if (dt_cmp (op_eqD' hr.units) (dv 0) de_str (nomark _)) (dss_one (ds_ret (de_ix ix_D (de_ix ix_D (dv 1) (de_bin op_subD (de_callB call_lenD (by rfl) T.z_len bb_len (da_cs (dv 1) da_nl)) de_int) (fun _ _ => rfl)) de_int (fun _ _ => rfl)))) dss_nil)
    (dss_cons (ds_lcO (i := 2) (ps_setLc (i := 2) (own := [("pair", 5)]) (by rfl) sc__law_aggregate.nd rfl rfl (sw_true rfl rfl rfl (by decide +kernel)) (di_seq (dv 1)) (blkOk_by (own := [("pair", 5)]) (N := N__law_aggregate) (sc := defScope s__law_aggregate) (by decide +kernel)) (fun _ _ _ _ _ => (dg_name (i := 5) sc__law_aggregate.nd rfl (.inl rfl))) (fun _ _ _ _ _ => (dts_one (dt_cmp op_isntD (de_ix ix_D (dv 5) de_int (fun _ _ => rfl)) de_non (nomark _)))) (fun _ _ _ _ _ => (dv 5))))
    (dss_cons (ds_set (i := 3) sc__law_aggregate.nd rfl (.inl rfl) (de_callB (call_sumD rfl) (by rfl) T.z_sum bb_sum (da_cs (df_de (df_lc (pe_lc (own := [("pair", 5)]) (by rfl) sc__law_aggregate.nd (di_seq (dz 2)) (blkOk_by (own := [("pair", 5)]) (N := N__law_aggregate) (sc := defScope s__law_aggregate) (by decide +kernel)) (fun _ _ _ _ _ => (dg_name (i := 5) sc__law_aggregate.nd rfl (.inl rfl))) (fun _ _ _ _ _ => dts_nil) (fun _ _ _ _ _ => (de_ix ix_D (dv 5) de_int (fun _ _ => rfl)))))) da_nl)))
    (dss_cons (ds_if (dt_cmp (op_eqD' hr.units) (dv 0) de_str (nomark _)) (dss_one (ds_ret (de_ix ix_D (df_de (df_lst (da_cs (dv 3) (da_cs de_non da_nl)))) (de_callTy call_intD (by rfl) T.z_int bt_int (da_cs (de_cmp op_gtD (dv 3) de_int (nomark _)) da_nl)) (fun _ _ => rfl)))) dss_nil)
    (dss_cons (ds_if (dbt_cmpL 2 (op_eqD' hr.units) (df_de (df_lst da_nl)) (nomark _)) (dss_one (ds_ret de_non)) dss_nil)
    (dss_cons (ds_set (i := 4) sc__law_aggregate.nd rfl (.inl rfl) (de_ix ix_D (db_ix 2 de_int) de_int (fun _ _ => rfl)))
    (dss_cons (ds_for PassesOwn.never rfl (di_seq (dz 2)) (dg_name (i := 5) sc__law_aggregate.nd rfl (.inl rfl)) (dss_cons (ds_if (dt_bool (dt_and (dt_cmp (op_eqD' hr.units) (dv 0) de_str (nomark _)) (dt_and1 (dt_tru (de_call (ok__law_before T) (hr.mono (by decide)) (by rfl) T.m__law_before T.F__law_before.kp (bd__law_before T) (by rfl) (da_cs (de_ix ix_D (dv 5) de_int (fun _ _ => rfl)) (da_cs (dv 4) da_nl)) (len_cons (len_cons len_nil))))))) (dss_one (ds_set (i := 4) sc__law_aggregate.nd rfl (.inl rfl) (de_ix ix_D (dv 5) de_int (fun _ _ => rfl)))) dss_nil)
    (dss_one (ds_if (dt_bool (dt_and (dt_cmp (op_eqD' hr.units) (dv 0) de_str (nomark _)) (dt_and1 (dt_tru (de_call (ok__law_before T) (hr.mono (by decide)) (by rfl) T.m__law_before T.F__law_before.kp (bd__law_before T) (by rfl) (da_cs (dv 4) (da_cs (de_ix ix_D (dv 5) de_int (fun _ _ => rfl)) da_nl)) (len_cons (len_cons len_nil))))))) (dss_one (ds_set (i := 4) sc__law_aggregate.nd rfl (.inl rfl) (de_ix ix_D (dv 5) de_int (fun _ _ => rfl)))) dss_nil))))
    (dss_cons (ds_if (dt_cmp (op_inD' (in65 hr)) (dv 0) (de_tup (da_cs de_str (da_cs de_str da_nl))) (by rfl)) (dss_one (ds_ret (dv 4))) dss_nil)
    (dss_cons (ds_set (i := 6) sc__law_aggregate.nd rfl (.inl rfl) (de_callB (call_sumD rfl) (by rfl) T.z_sum bb_sum (da_cs (df_de (df_lc (pe_lc (own := [("pair", 5)]) (by rfl) sc__law_aggregate.nd (di_seq (dz 2)) (blkOk_by (own := [("pair", 5)]) (N := N__law_aggregate) (sc := defScope s__law_aggregate) (by decide +kernel)) (fun _ _ _ _ _ => (dg_name (i := 5) sc__law_aggregate.nd rfl (.inl rfl))) (fun _ _ _ _ _ => dts_nil) (fun _ _ _ _ _ => (de_bin op_mulD (de_ix ix_D (dv 5) de_int (fun _ _ => rfl)) (de_ix ix_D (dv 5) de_int (fun _ _ => rfl))))))) da_nl)))
    (dss_cons (ds_if (dt_cmp (op_eqD' hr.units) (dv 0) de_str (nomark _)) (dss_one (ds_set (i := 6) sc__law_aggregate.nd rfl (.inl rfl) (de_bin op_fdivD (dv 6) (dv 3)))) dss_nil)
    (dss_one (ds_ret (de_ix ix_D (df_de (df_lst (da_cs (dv 6) (da_cs de_non da_nl)))) (de_callTy call_intD (by rfl) T.z_int bt_int (da_cs (de_or (de_cmp op_gtD (dv 6) de_int (nomark _)) (de_one (de_cmp (op_ltD hr.units) (dv 6) (de_un un_negD de_int) (nomark _)))) da_nl)) (fun _ _ => rfl)))))))))))))))
theorem bd__law_cell : Binds K T.d__law_cell ["script", "k"] [] := T.F__law_cell.binds (ps := ["script", "k"]) fun _ _ _ _ _ _ us hl => match us, hl with | [_, _], _ => rfl
theorem ok__law_cell : FnOk P w K mg base CX0 1 T.a__law_cell T.d__law_cell ["script", "k"] (spV K 2 f__law_cell) := fn_V (N := N__law_cell) (g := g__law_cell) T.F__law_cell sc__law_cell fun cdv A outer s H E hr =>
  (dss_cons (ds_if (dt_cmp (op_ltD hr.units) (dv 1) (de_callB call_lenD (by rfl) T.z_len bb_len (da_cs (dv 0) da_nl)) (nomark _)) (dss_one (ds_ret (de_ix ix_D (dv 0) (dv 1) (fun _ _ => rfl)))) dss_nil)
    (dss_one (ds_ret de_int)))
theorem bd__law_digit : Binds K T.d__law_digit ["state", "many"] [] := T.F__law_digit.binds (ps := ["state", "many"]) fun _ _ _ _ _ _ us hl => match us, hl with | [_, _], _ => rfl
theorem ok__law_digit : FnOk P w K mg base CX0 1 T.a__law_digit T.d__law_digit ["state", "many"] (spIO K 2 f__law_digit) := fn_IO (N := N__law_digit) (g := g__law_digit) T.F__law_digit sc__law_digit (by decide) fun cdv A outer s H E hr =>
  (dss_cons (ds_set (i := 2) sc__law_digit.nd rfl (.inl rfl) (de_bin op_modD (de_callTy call_intD (by rfl) T.z_int bt_int (da_cs (db_ix 0 de_int) da_nl)) (dv 1)))
    (dss_cons (db_setIx 0 (de_bin op_fdivD (db_ix 0 de_int) (dv 1)) de_int)
    (dss_one (ds_ret (dv 2)))))
theorem bd__law_start : Binds K T.d__law_start ["cell", "k"] [] := T.F__law_start.binds (ps := ["cell", "k"]) fun _ _ _ _ _ _ us hl => match us, hl with | [_, _], _ => rfl
theorem ok__law_start : FnOk P w K mg base CX0 1 T.a__law_start T.d__law_start ["cell", "k"] (spF K 2 f__law_start) := fn_F (N := N__law_start) (g := g__law_start) T.F__law_start sc__law_start fun cdv A outer s H E hr =>
  (dss_cons (ds_set (i := 2) sc__law_start.nd rfl (.inl rfl) de_int)
    (dss_cons (ds_if (dt_chain (op_ltD hr.units) (op_ltD hr.units) (de_un un_negD de_int) (dv 0) de_int) (dss_cons (ds_set (i := 3) sc__law_start.nd rfl (.inl rfl) (de_bin op_modD (de_callTy call_intD (by rfl) T.z_int bt_int (da_cs (de_bin op_addD (de_bin op_mulS (dv 0) de_int) (de_bin op_mulS (de_bin op_addD (dv 1) de_int) de_int)) da_nl)) (dv 2)))
    (dss_cons (ds_set (i := 4) sc__law_start.nd rfl (.inl rfl) de_int)
    (dss_cons (ds_for PassesOwn.never rfl (di_rng1 (by rfl) T.z_range (da_cs de_int da_nl)) (dg_name (i := 5) sc__law_start.nd rfl (.inl rfl)) (dss_cons (ds_set (i := 3) sc__law_start.nd rfl (.inl rfl) (de_bin op_modD (de_callTy call_intD (by rfl) T.z_int bt_int (da_cs (de_bin op_addD (de_bin op_addD (de_bin op_addD (de_bin op_mulD (dv 3) (dv 3)) (de_bin op_mulD de_int (dv 3))) (dv 1)) (dv 5)) da_nl)) (dv 2)))
    (dss_one (ds_set (i := 4) sc__law_start.nd rfl (.inl rfl) (de_bin op_addD (de_bin op_mulD (dv 4) (dv 2)) (dv 3))))))
    (dss_one (ds_rof (df_lst (da_cs (dv 4) da_nl))))))) dss_nil)
    (dss_one (ds_rof (df_lst (da_cs (de_callB call_absD (by rfl) T.z_abs bb_abs (da_cs (dv 0) da_nl)) da_nl))))))
theorem bd__law_value : Binds K T.d__law_value ["state", "kind"] [] := T.F__law_value.binds (ps := ["state", "kind"]) fun _ _ _ _ _ _ us hl => match us, hl with | [_, _], _ => rfl
theorem ok__law_value : FnOk P w K mg base CX0 2 T.a__law_value T.d__law_value ["state", "kind"] (spIO K 2 f__law_value) := fn_IO (N := N__law_value) (g := g__law_value) T.F__law_value sc__law_value (by decide) fun cdv A outer s H E hr =>
  (dss_cons (ds_if (dt_cmp (op_eqD' hr.units) (db_io 0 (ok__law_digit T) (hr.mono (by decide)) (by rfl) T.m__law_digit T.F__law_digit.kp (bd__law_digit T) (da_cs de_int da_nl) (len_cons len_nil)) de_int (nomark _)) (dss_one (ds_ret de_non)) dss_nil)
    (dss_cons (ds_if (dt_cmp (op_eqD' hr.units) (dv 1) de_str (nomark _)) (dss_one (ds_ret (de_cmp (op_eqD' hr.units) (db_io 0 (ok__law_digit T) (hr.mono (by decide)) (by rfl) T.m__law_digit T.F__law_digit.kp (bd__law_digit T) (da_cs de_int da_nl) (len_cons len_nil)) de_int (nomark _)))) dss_nil)
    (dss_cons (ds_if (dt_cmp (op_eqD' hr.units) (dv 1) de_str (nomark _)) (dss_one (ds_ret (de_ix ix_D (df_de (df_lst (da_cs de_int (da_cs de_int (da_cs de_int (da_cs (de_un un_negD de_int) (da_cs de_int (da_cs de_int (da_cs de_int (da_cs de_int da_nl)))))))))) (db_io 0 (ok__law_digit T) (hr.mono (by decide)) (by rfl) T.m__law_digit T.F__law_digit.kp (bd__law_digit T) (da_cs de_int da_nl) (len_cons len_nil)) (fun _ _ => rfl)))) dss_nil)
    (dss_one (ds_ret (de_ix ix_D (de_tup (da_cs de_str (da_cs de_str (da_cs de_str (da_cs de_str (da_cs de_str da_nl)))))) (db_io 0 (ok__law_digit T) (hr.mono (by decide)) (by rfl) T.m__law_digit T.F__law_digit.kp (bd__law_digit T) (da_cs de_int da_nl) (len_cons len_nil)) (fun _ _ => rfl)))))))
theorem bd_bounded : Binds K T.d_bounded ["number"] [] := T.F_bounded.binds (ps := ["number"]) fun _ _ _ _ _ _ us hl => match us, hl with | [_], _ => rfl
theorem ok_bounded : FnOk P w K mg base CX0 1 T.a_bounded T.d_bounded ["number"] (spV K 1 f_bounded) := fn_V (N := N_bounded) (g := g_bounded) T.F_bounded sc_bounded fun cdv A outer s H E hr =>
  (dss_cons (ds_if (dt_cmp op_gtD (de_callB call_absD (by rfl) T.z_abs bb_abs (da_cs (dv 0) da_nl)) (de_glob (by rfl) T.c_MOST_NUMBER) (nomark _)) (dss_one (ds_ret de_non)) dss_nil)
    (dss_one (ds_ret (dv 0))))
theorem bd_value_order : Binds K T.d_value_order ["value"] [] := T.F_value_order.binds (ps := ["value"]) fun _ _ _ _ _ _ us hl => match us, hl with | [_], _ => rfl
theorem ok_value_order : FnOk P w K mg base CX0 1 T.a_value_order T.d_value_order ["value"] (spV K 1 f_value_order) := fn_V (N := N_value_order) (g := g_value_order) T.F_value_order sc_value_order fun cdv A outer s H E hr =>
  (dss_cons (ds_if (dt_cmp op_isD (dv 0) de_non (nomark _)) (dss_one (ds_ret (de_tup (da_cs de_int (da_cs de_int da_nl))))) dss_nil)
    (dss_cons (ds_if (dt_tru (de_isi T.z_isinstance (by rfl) (by rfl) T.z_bool bt_bool (dv 0))) (dss_one (ds_ret (de_tup (da_cs de_int (da_cs (de_callTy call_intD (by rfl) T.z_int bt_int (da_cs (dv 0) da_nl)) da_nl))))) dss_nil)
    (dss_cons (ds_if (dt_tru (de_isi T.z_isinstance (by rfl) (by rfl) T.z_int bt_int (dv 0))) (dss_one (ds_ret (de_tup (da_cs de_int (da_cs (dv 0) da_nl))))) dss_nil)
    (dss_one (ds_ret (de_tup (da_cs de_int (da_cs (dv 0) da_nl))))))))
theorem bd_extreme : Binds K T.d_extreme ["known", "word"] [] := T.F_extreme.binds (ps := ["known", "word"]) fun _ _ _ _ _ _ us hl => match us, hl with | [_, _], _ => rfl
theorem ok_extreme : FnOk P w K mg base CX0 2 T.a_extreme T.d_extreme ["known", "word"] (spV K 2 f_extreme) := fn_V (N := N_extreme) (g := g_extreme) T.F_extreme sc_extreme fun cdv A outer s H E hr =>
  (dss_cons (ds_set (i := 2) sc_extreme.nd rfl (.inl rfl) (df_de (df_callB (call_sortD (in65 hr)) (by rfl) T.z_sorted bb_sorted (da_cs (df_de (df_lc (pe_lc (own := [("value", 4), ("weight", 5)]) (by rfl) sc_extreme.nd (di_seq (dv 0)) (blkOk_by (own := [("value", 4), ("weight", 5)]) (N := N_extreme) (sc := defScope s_extreme) (by decide +kernel)) (fun _ _ _ _ _ => (dg_tup rfl (dgs_cons (dg_name (i := 4) sc_extreme.nd rfl (.inl rfl)) (dgs_cons (dg_name (i := 5) sc_extreme.nd rfl (.inl rfl)) dgs_nil)))) (fun _ _ _ _ _ => dts_nil) (fun _ _ _ _ _ => (de_call (ok_value_order T) (hr.mono (by decide)) (by rfl) T.m_value_order T.F_value_order.kp (bd_value_order T) (by rfl) (da_cs (dv 4) da_nl) (len_cons len_nil)))))) da_nl))))
    (dss_cons (ds_set (i := 3) sc_extreme.nd rfl (.inl rfl) (de_ifE (dt_cmp (op_eqD' hr.units) (dv 1) de_str (nomark _)) (de_ix ix_D (dv 2) de_int (fun _ _ => rfl)) (de_ix ix_D (dv 2) (de_un un_negD de_int) (fun _ _ => rfl))))
    (dss_cons (ds_for PassesOwn.never rfl (di_seq (dv 0)) (dg_tup rfl (dgs_cons (dg_name (i := 4) sc_extreme.nd rfl (.inl rfl)) (dgs_cons (dg_name (i := 5) sc_extreme.nd rfl (.inl rfl)) dgs_nil))) (dss_one (ds_if (dt_cmp (op_eqD' hr.units) (de_call (ok_value_order T) (hr.mono (by decide)) (by rfl) T.m_value_order T.F_value_order.kp (bd_value_order T) (by rfl) (da_cs (dv 4) da_nl) (len_cons len_nil)) (dv 3) (nomark _)) (dss_one (ds_ret (dv 4))) dss_nil)))
    (dss_one (ds_ret de_non)))))
theorem bd_mean_of : Binds K T.d_mean_of ["total", "count"] [] := T.F_mean_of.binds (ps := ["total", "count"]) fun _ _ _ _ _ _ us hl => match us, hl with | [_, _], _ => rfl
theorem ok_mean_of : FnOk P w K mg base CX0 2 T.a_mean_of T.d_mean_of ["total", "count"] (spV K 2 f_mean_of) := fn_V (N := N_mean_of) (g := g_mean_of) T.F_mean_of sc_mean_of fun cdv A outer s H E hr =>
  (dss_cons (ds_if (dt_cmp (op_eqD' hr.units) (dv 1) de_int (nomark _)) (dss_one (ds_ret de_non)) dss_nil)
    (dss_one (ds_ret (de_call (ok_bounded T) (hr.mono (by decide)) (by rfl) T.m_bounded T.F_bounded.kp (bd_bounded T) (by rfl) (da_cs (de_bin op_fdivD (dv 0) (dv 1)) da_nl) (len_cons len_nil)))))
theorem bd_aggregate : Binds K T.d_aggregate ["word", "values"] [] := T.F_aggregate.binds (ps := ["word", "values"]) fun _ _ _ _ _ _ us hl => match us, hl with | [_, _], _ => rfl
theorem ok_aggregate : FnOk P w K mg base CX0 3 T.a_aggregate T.d_aggregate ["word", "values"] (spV K 2 f_aggregate) := fn_V (N := N_aggregate) (g := g_aggregate) T.F_aggregate sc_aggregate fun cdv A outer s H E hr =>
  (dss_cons (ds_if (dt_cmp (op_eqD' hr.units) (dv 0) de_str (nomark _)) (dss_one (ds_ret (de_ix ix_D (de_ix ix_D (dv 1) de_int (fun _ _ => rfl)) de_int (fun _ _ => rfl)))) dss_nil)
    (dss_cons (ds_if (dt_cmp (op_eqD' hr.units) (dv 0) de_str (nomark _)) (dss_one (ds_ret (de_ix ix_D (de_ix ix_D (dv 1) (de_un un_negD de_int) (fun _ _ => rfl)) de_int (fun _ _ => rfl)))) dss_nil)
    (dss_cons (ds_lcO (i := 2) (ps_setLc (i := 2) (own := [("value", 5), ("weight", 6)]) (by rfl) sc_aggregate.nd rfl rfl (sw_true rfl rfl rfl (by decide +kernel)) (di_seq (dv 1)) (blkOk_by (own := [("value", 5), ("weight", 6)]) (N := N_aggregate) (sc := defScope s_aggregate) (by decide +kernel)) (fun _ _ _ _ _ => (dg_tup rfl (dgs_cons (dg_name (i := 5) sc_aggregate.nd rfl (.inl rfl)) (dgs_cons (dg_name (i := 6) sc_aggregate.nd rfl (.inl rfl)) dgs_nil)))) (fun _ _ _ _ _ => (dts_one (dt_cmp op_isntD (dv 5) de_non (nomark _)))) (fun _ _ _ _ _ => (de_tup (da_cs (dv 5) (da_cs (dv 6) da_nl))))))
    (dss_cons (ds_set (i := 3) sc_aggregate.nd rfl (.inl rfl) (de_callB (call_sumD rfl) (by rfl) T.z_sum bb_sum (da_cs (df_de (df_lc (pe_lc (own := [("value", 5), ("weight", 6)]) (by rfl) sc_aggregate.nd (di_seq (dz 2)) (blkOk_by (own := [("value", 5), ("weight", 6)]) (N := N_aggregate) (sc := defScope s_aggregate) (by decide +kernel)) (fun _ _ _ _ _ => (dg_tup rfl (dgs_cons (dg_name (i := 5) sc_aggregate.nd rfl (.inl rfl)) (dgs_cons (dg_name (i := 6) sc_aggregate.nd rfl (.inl rfl)) dgs_nil)))) (fun _ _ _ _ _ => dts_nil) (fun _ _ _ _ _ => (dv 6))))) da_nl)))
    (dss_cons (ds_if (dt_cmp (op_eqD' hr.units) (dv 0) de_str (nomark _)) (dss_one (ds_ret (de_call (ok_bounded T) (hr.mono (by decide)) (by rfl) T.m_bounded T.F_bounded.kp (bd_bounded T) (by rfl) (da_cs (dv 3) da_nl) (len_cons len_nil)))) dss_nil)
    (dss_cons (ds_if (dbt_cmpL 2 (op_eqD' hr.units) (df_de (df_lst da_nl)) (nomark _)) (dss_one (ds_ret de_non)) dss_nil)
    (dss_cons (ds_if (dt_bool (dt_or (dt_cmp (op_eqD' hr.units) (dv 0) de_str (nomark _)) (dt_or1 (dt_cmp (op_eqD' hr.units) (dv 0) de_str (nomark _))))) (dss_one (ds_ret (de_call (ok_extreme T) (hr.mono (by decide)) (by rfl) T.m_extreme T.F_extreme.kp (bd_extreme T) (by rfl) (da_cs (dz 2) (da_cs (dv 0) da_nl)) (len_cons (len_cons len_nil))))) dss_nil)
    (dss_cons (ds_set (i := 4) sc_aggregate.nd rfl (.inl rfl) (de_callB (call_sumD rfl) (by rfl) T.z_sum bb_sum (da_cs (df_de (df_lc (pe_lc (own := [("value", 5), ("weight", 6)]) (by rfl) sc_aggregate.nd (di_seq (dz 2)) (blkOk_by (own := [("value", 5), ("weight", 6)]) (N := N_aggregate) (sc := defScope s_aggregate) (by decide +kernel)) (fun _ _ _ _ _ => (dg_tup rfl (dgs_cons (dg_name (i := 5) sc_aggregate.nd rfl (.inl rfl)) (dgs_cons (dg_name (i := 6) sc_aggregate.nd rfl (.inl rfl)) dgs_nil)))) (fun _ _ _ _ _ => dts_nil) (fun _ _ _ _ _ => (de_bin op_mulD (dv 5) (dv 6)))))) da_nl)))
    (dss_cons (ds_if (dt_cmp (op_eqD' hr.units) (dv 0) de_str (nomark _)) (dss_one (ds_ret (de_call (ok_bounded T) (hr.mono (by decide)) (by rfl) T.m_bounded T.F_bounded.kp (bd_bounded T) (by rfl) (da_cs (dv 4) da_nl) (len_cons len_nil)))) dss_nil)
    (dss_one (ds_ret (de_call (ok_mean_of T) (hr.mono (by decide)) (by rfl) T.m_mean_of T.F_mean_of.kp (bd_mean_of T) (by rfl) (da_cs (dv 4) (da_cs (dv 3) da_nl)) (len_cons (len_cons len_nil))))))))))))))
theorem bd_law : Binds K T.d_law ["script"] [] := T.F_law.binds (ps := ["script"]) fun _ _ _ _ _ _ us hl => match us, hl with | [_], _ => rfl
theorem ok_law (cdv : Value) (s : Shared) (H : Hp) (E : XK) : DSs (cxOf CX0 P w K mg base N_law "law" (defScope s_law) T.a_law cdv callerA [] s H E).nox (defBody s_law) g_law :=
  have hr : Room 3 (callerA.deeper (envOfC "law" (defScope s_law) s.heap.objs.size T.a_law cdv)) := Room.deeper (k := 3) ⟨rfl, by decide, by decide⟩ _
  (dss_cons (ds_set (i := 1) sc_law.nd rfl (.inl rfl) (df_de (df_lst (da_cs de_str (da_cs de_str (da_cs de_str (da_cs de_str (da_cs de_str (da_cs de_str (da_cs de_str da_nl))))))))))
    (dss_cons (ds_for PassesOwn.never rfl (di_rng1 (by rfl) T.z_range (da_cs (de_callB (call_minD rfl) (by rfl) T.z_min bb_min (da_cs de_int (da_cs (de_callB (call_maxD rfl) (by rfl) T.z_max bb_max (da_cs de_int (da_cs (de_callB call_lenD (by rfl) T.z_len bb_len (da_cs (dv 0) da_nl)) da_nl))) da_nl))) da_nl)) (dg_name (i := 2) sc_law.nd rfl (.inl rfl)) (dss_cons (ds_own (i := 3) sc_law.nd rfl (.inl rfl) (df_call (ok__law_start T) (hr.mono (by decide)) (by rfl) T.m__law_start T.F__law_start.kp (bd__law_start T) (by rfl) (da_cs (de_call (ok__law_cell T) (hr.mono (by decide)) (by rfl) T.m__law_cell T.F__law_cell.kp (bd__law_cell T) (by rfl) (da_cs (dv 0) (da_cs (dv 2) da_nl)) (len_cons (len_cons len_nil))) (da_cs (dv 2) da_nl)) (len_cons (len_cons len_nil))))
    (dss_cons (ds_set (i := 4) sc_law.nd rfl (.inl rfl) (de_ix ix_D (dv 1) (db_io 3 (ok__law_digit T) (hr.mono (by decide)) (by rfl) T.m__law_digit T.F__law_digit.kp (bd__law_digit T) (da_cs de_int da_nl) (len_cons len_nil)) (fun _ _ => rfl)))
    (dss_cons (ds_set (i := 5) sc_law.nd rfl (.inl rfl) de_str)
    (dss_cons (ds_if (dt_cmp (op_ninD' (in65 hr)) (dv 4) (de_tup (da_cs de_str (da_cs de_str da_nl))) (by rfl)) (dss_one (ds_set (i := 5) sc_law.nd rfl (.inl rfl) (de_ix ix_D (df_de (df_lst (da_cs de_str (da_cs de_str (da_cs de_str da_nl))))) (db_io 3 (ok__law_digit T) (hr.mono (by decide)) (by rfl) T.m__law_digit T.F__law_digit.kp (bd__law_digit T) (da_cs de_int da_nl) (len_cons len_nil)) (fun _ _ => rfl)))) dss_nil)
    (dss_cons (ds_own (i := 6) sc_law.nd rfl (.inl rfl) (df_lst da_nl))
    (dss_cons (ds_for PassesOwn.never rfl (di_rng1 (by rfl) T.z_range (da_cs (de_bin op_addD de_int (db_io 3 (ok__law_digit T) (hr.mono (by decide)) (by rfl) T.m__law_digit T.F__law_digit.kp (bd__law_digit T) (da_cs de_int da_nl) (len_cons len_nil))) da_nl)) (dg_name (i := 7) sc_law.nd rfl (.inl rfl)) (dss_one (ds_app 6 (pe_bm PySem.F.plainAttrs_list PySem.F.slot_list_append PySem.F.type_list_append mt_append (pv 6) (pa_cons (de_tup (da_cs (db_io 3 (ok__law_value T) (hr.mono (by decide)) (by rfl) T.m__law_value T.F__law_value.kp (bd__law_value T) (da_cs (dv 5) da_nl) (len_cons len_nil)) (da_cs (de_ix ix_D (df_de (df_lst (da_cs de_int (da_cs de_int (da_cs de_int (da_cs de_int da_nl)))))) (de_bin op_fdivD (db_io 3 (ok__law_digit T) (hr.mono (by decide)) (by rfl) T.m__law_digit T.F__law_digit.kp (bd__law_digit T) (da_cs de_int da_nl) (len_cons len_nil)) de_int) (fun _ _ => rfl)) da_nl))) pa_nil)))))
    (dss_cons (ds_set (i := 8) sc_law.nd rfl (.inl rfl) (de_callB (call_reprD rfl (in65 hr)) (by rfl) T.z_repr bb_repr (da_cs (dz 6) da_nl)))
    (dss_cons (ds_set (i := 9) sc_law.nd rfl (.inl rfl) (de_call (ok_aggregate T) (hr.mono (by decide)) (by rfl) T.m_aggregate T.F_aggregate.kp (bd_aggregate T) (by rfl) (da_cs (dv 4) (da_cs (dz 6) da_nl)) (len_cons (len_cons len_nil))))
    (dss_cons (ds_set (i := 10) sc_law.nd rfl (.inl rfl) (de_call (ok__law_aggregate T) (hr.mono (by decide)) (by rfl) T.m__law_aggregate T.F__law_aggregate.kp (bd__law_aggregate T) (by rfl) (da_cs (dv 4) (da_cs (dz 6) da_nl)) (len_cons (len_cons len_nil))))
    (dss_cons (ds_if (dt_bool (dt_or (dt_cmp (op_neD' hr.units) (de_call (ok__law_rank T) (hr.mono (by decide)) (by rfl) T.m__law_rank T.F__law_rank.kp (bd__law_rank T) (by rfl) (da_cs (dv 9) da_nl) (len_cons len_nil)) (de_call (ok__law_rank T) (hr.mono (by decide)) (by rfl) T.m__law_rank T.F__law_rank.kp (bd__law_rank T) (by rfl) (da_cs (dv 10) da_nl) (len_cons len_nil)) (nomark _)) (dt_or (dt_tru (de_call (ok__law_before T) (hr.mono (by decide)) (by rfl) T.m__law_before T.F__law_before.kp (bd__law_before T) (by rfl) (da_cs (dv 9) (da_cs (dv 10) da_nl)) (len_cons (len_cons len_nil)))) (dt_or1 (dt_tru (de_call (ok__law_before T) (hr.mono (by decide)) (by rfl) T.m__law_before T.F__law_before.kp (bd__law_before T) (by rfl) (da_cs (dv 10) (da_cs (dv 9) da_nl)) (len_cons (len_cons len_nil)))))))) (dss_one (ds_ret de_bl)) dss_nil)
    (dss_cons (ds_if (dt_cmp (op_neD' hr.units) (de_callB (call_reprD rfl (in65 hr)) (by rfl) T.z_repr bb_repr (da_cs (dz 6) da_nl)) (dv 8) (nomark _)) (dss_one (ds_ret de_bl)) dss_nil)
    (dss_one (ds_if (dt_cmp (op_neD' hr.units) (de_call (ok_aggregate T) (hr.mono (by decide)) (by rfl) T.m_aggregate T.F_aggregate.kp (bd_aggregate T) (by rfl) (da_cs de_str (da_cs (df_de (df_lc (pe_lc (own := [("pair", 11)]) (by rfl) sc_law.nd (di_seq (dz 6)) (blkOk_by (own := [("pair", 11)]) (N := N_law) (sc := defScope s_law) (by decide +kernel)) (fun _ _ _ _ _ => (dg_name (i := 11) sc_law.nd rfl (.inl rfl))) (fun _ _ _ _ _ => dts_nil) (fun _ _ _ _ _ => (de_tup (da_cs de_int (da_cs (de_ix ix_D (dv 11) de_int (fun _ _ => rfl)) da_nl))))))) da_nl)) (len_cons (len_cons len_nil))) (de_call (ok__law_aggregate T) (hr.mono (by decide)) (by rfl) T.m__law_aggregate T.F__law_aggregate.kp (bd__law_aggregate T) (by rfl) (da_cs de_str (da_cs (df_de (df_lc (pe_lc (own := [("pair", 11)]) (by rfl) sc_law.nd (di_seq (dz 6)) (blkOk_by (own := [("pair", 11)]) (N := N_law) (sc := defScope s_law) (by decide +kernel)) (fun _ _ _ _ _ => (dg_name (i := 11) sc_law.nd rfl (.inl rfl))) (fun _ _ _ _ _ => dts_nil) (fun _ _ _ _ _ => (de_tup (da_cs de_int (da_cs (de_ix ix_D (dv 11) de_int (fun _ _ => rfl)) da_nl))))))) da_nl)) (len_cons (len_cons len_nil))) (nomark _)) (dss_one (ds_ret de_bl)) dss_nil))))))))))))))
    (dss_one (ds_ret de_bl))))
end
end Lw
set_option maxHeartbeats 4000000
namespace Lw
open PySem Dn Dm
theorem sp_digit (n m : Int) (h : 0 < m ∧ m < 1073741824) : f__law_digit (.list [.int n]) [.int m] = some (.int (n % m), .list [.int (n / m)]) := by
  rw [← wo_eq]
  unfold f__law_digit
  rw [wo_runIO]
  show Ws g__law_digit [some (.own true (.list [.int n])), some (.val (.int m)), none] _
  unfold g__law_digit
  have h' : 0 < m ∧ m < 18446744073709551616 := ⟨h.1, by omega⟩
  simp only [backE, wipeE, wo_some, wo_none, wm_c, wm_var, wm_frz, wm_bin, wm_un, wm_tst, wm_tru, wm_truB, wm_chain, wm_and, wm_or, wm_not, wm_andV, wm_orV, wm_notV, wm_ifE, wm_nil, wm_cons, wm_app, wm_noP, wm_part, wm_sl, wm_pk, wm_io, wm_ix, wm_inB, wm_true, wm_seq, wm_rng1, wm_rng2,
  then_nx, then_ret, then_rof, then_brk, then_cnt, ws_next, ws_brk, ws_cnt, ws_seq, ws_if, ws_ret, ws_rof, ws_drop, ws_set, ws_own, ws_asg, wo_TN, wo_TNil, wo_TCons, wo_TTup, ws_ap, ws_setIx, ws_for, for_nil, turn_nx, turn_cnt, turn_brk, turn_ret, turn_rof, wm_lc, end_ret, end_nx, end_rof, end_io, ownOf_own, valOf_val, frz_val, frz_own, cOwn_own, peek_val, peek_own, by_val, by_own, canSet_none, canSet_val, canSet_own, lstOf_list,
  List.getElem?_cons_zero, List.getElem?_cons_succ, List.set_cons_zero, List.set_cons_succ, List.length_cons, List.length_nil, wo_ite, wo_bind, ↓reduceIte, and_true, true_and, and_self, Bool.false_eq_true, Bool.not_true, Bool.not_false, decide_eq_true_eq, decide_true, decide_false, oneInt_int, twoInts_int,
  add_ii, add_ll, add_tt, add_ss, sub_ii, mul_ii, mulS_ii, mod_ii, fdiv_ii, neg_i, le_ii, gt_ii, ge_ii, eqT_ii, eqT_ss, eqT_bb, eqT_nn, ltT_ii, ltT_ss, wo_eqD, wo_neD, wo_ltD, wo_inD, wo_ninD, is_n, isnt_n, is_bb, isnt_bb, isN, bOf_b, iOf_i, tru_b, tru_n, tru_i, tru_l, tru_t, seq_l, seq_t, tup_l, tup_t, lst_l, lst_t, len_l, len_t, int_i, int_b, abs_i, max_ii, min_ii, ix_li, ix_ti, cut_l, cut_t, flat_i, flat_b, flat_s, ix0, ix1, ix2, mkTup, mkLst,
  wm_reve, rev_l, rev_t, wm_opBL, repr_l, sort_l, sum_l, wm_enum, enum_l, enum_t, enumL_nil, wm_dic, wm_kvn, wm_kvc, seq_s, mulT_si, len_s, ord_c, str_i, ty_d, k_lb, k_li, k_ls, k_tb, k_ti, k_ts, k_db, k_di, k_ds, k_lt, k_tl,
  isi_1, ty_n, ty_b, ty_i, ty_s, ty_l, ty_t, k_nb, k_bb, k_ib, k_sb, k_ni, k_bi, k_ii, k_si, k_ns, k_bs, k_is, k_ss, k_ll, k_tt,
  Int.reduceNeg, Int.reducePow, Int.reduceLT, Int.reduceLE, Int.reduceAdd, Int.reduceSub, Int.reduceMul, Int.reduceToNat, Nat.reduceAdd, Nat.reduceLeDiff, Nat.reduceEqDiff, Int.reduceEq, reduceCtorEq]
  simp only [wo_some, h', h'.1, ↓reduceIte, and_self]
  simp [ixS, wo_some]
theorem wo_valueT {n : Int} {k : Str} {Q : D × D → Prop} (q : ∀ d n', gv d → (kd k → tyB k d = true) → isV d = true → Q (d, .list [.int n'])) : Wo (f__law_value (.list [.int n]) [.str k]) Q := by
  unfold f__law_value
  rw [wo_runIO]
  show Ws g__law_value [some (.own true (.list [.int n])), some (.val (.str k))] _
  unfold g__law_value
  simp only [backE, wipeE, wo_some, wo_none, wm_c, wm_var, wm_frz, wm_bin, wm_un, wm_tst, wm_tru, wm_truB, wm_chain, wm_and, wm_or, wm_not, wm_andV, wm_orV, wm_notV, wm_ifE, wm_nil, wm_cons, wm_app, wm_noP, wm_part, wm_sl, wm_pk, wm_io, wm_ix, wm_inB, wm_true, wm_seq, wm_rng1, wm_rng2,
  then_nx, then_ret, then_rof, then_brk, then_cnt, ws_next, ws_brk, ws_cnt, ws_seq, ws_if, ws_ret, ws_rof, ws_drop, ws_set, ws_own, ws_asg, wo_TN, wo_TNil, wo_TCons, wo_TTup, ws_ap, ws_setIx, ws_for, for_nil, turn_nx, turn_cnt, turn_brk, turn_ret, turn_rof, wm_lc, end_ret, end_nx, end_rof, end_io, ownOf_own, valOf_val, frz_val, frz_own, cOwn_own, peek_val, peek_own, by_val, by_own, canSet_none, canSet_val, canSet_own, lstOf_list,
  List.getElem?_cons_zero, List.getElem?_cons_succ, List.set_cons_zero, List.set_cons_succ, List.length_cons, List.length_nil, wo_ite, wo_bind, ↓reduceIte, and_true, true_and, and_self, Bool.false_eq_true, Bool.not_true, Bool.not_false, decide_eq_true_eq, decide_true, decide_false, oneInt_int, twoInts_int,
  add_ii, add_ll, add_tt, add_ss, sub_ii, mul_ii, mulS_ii, mod_ii, fdiv_ii, neg_i, le_ii, gt_ii, ge_ii, eqT_ii, eqT_ss, eqT_bb, eqT_nn, ltT_ii, ltT_ss, wo_eqD, wo_neD, wo_ltD, wo_inD, wo_ninD, is_n, isnt_n, is_bb, isnt_bb, isN, bOf_b, iOf_i, tru_b, tru_n, tru_i, tru_l, tru_t, seq_l, seq_t, tup_l, tup_t, lst_l, lst_t, len_l, len_t, int_i, int_b, abs_i, max_ii, min_ii, ix_li, ix_ti, cut_l, cut_t, flat_i, flat_b, flat_s, ix0, ix1, ix2, mkTup, mkLst,
  wm_reve, rev_l, rev_t, wm_opBL, repr_l, sort_l, sum_l, wm_enum, enum_l, enum_t, enumL_nil, wm_dic, wm_kvn, wm_kvc, seq_s, mulT_si, len_s, ord_c, str_i, ty_d, k_lb, k_li, k_ls, k_tb, k_ti, k_ts, k_db, k_di, k_ds, k_lt, k_tl,
  isi_1, ty_n, ty_b, ty_i, ty_s, ty_l, ty_t, k_nb, k_bb, k_ib, k_sb, k_ni, k_bi, k_ii, k_si, k_ns, k_bs, k_is, k_ss, k_ll, k_tt,
  Int.reduceNeg, Int.reducePow, Int.reduceLT, Int.reduceLE, Int.reduceAdd, Int.reduceSub, Int.reduceMul, Int.reduceToNat, Nat.reduceAdd, Nat.reduceLeDiff, Nat.reduceEqDiff, Int.reduceEq, reduceCtorEq, sp_digit]
  split
  · exact q _ _ gv_none (fun _ => rfl) rfl
  split
  · rename_i hk
    exact q _ _ (gv_bool _) (fun _ => decide_eq_true hk) rfl
  rename_i hk1
  split
  · rename_i hk
    refine wo_ix (by omega) (by simp only [List.length_cons, List.length_nil]; omega) ?_
    intro x hx
    simp only [List.mem_cons, List.not_mem_nil, or_false] at hx
    rcases hx with rfl | rfl | rfl | rfl | rfl | rfl | rfl | rfl <;> exact q _ _ (gv_int _) (fun _ => decide_eq_true hk) (by decide)
  · rename_i hk2
    refine wo_ix (by omega) (by simp only [List.length_cons, List.length_nil]; omega) ?_
    intro x hx
    simp only [List.mem_cons, List.not_mem_nil, or_false] at hx
    have ht : kd k → k = "text" := fun h => (h.resolve_left hk1).resolve_left hk2
    rcases hx with rfl | rfl | rfl | rfl | rfl <;> exact q _ _ ⟨rfl, by decide +kernel⟩ (fun h => decide_eq_true (ht h)) (by decide +kernel)
theorem wo_value {n : Int} {k : Str} {Q : D × D → Prop} (q : ∀ d n', gv d → Q (d, .list [.int n'])) : Wo (f__law_value (.list [.int n]) [.str k]) Q := wo_valueT fun d n' h _ _ => q d n' h
theorem wo_start {c k : Int} {Q : D → Prop} (q : ∀ n : Int, Q (.list [.int n])) : Wo (f__law_start [.int c, .int k]) Q := by
  unfold f__law_start
  rw [wo_runF]
  show Ws g__law_start [some (.val (.int c)), some (.val (.int k)), none, none, none, none] _
  unfold g__law_start
  simp only [backE, wipeE, wo_some, wo_none, wm_c, wm_var, wm_frz, wm_bin, wm_un, wm_tst, wm_tru, wm_truB, wm_chain, wm_and, wm_or, wm_not, wm_andV, wm_orV, wm_notV, wm_ifE, wm_nil, wm_cons, wm_app, wm_noP, wm_part, wm_sl, wm_pk, wm_io, wm_ix, wm_inB, wm_true, wm_seq, wm_rng1, wm_rng2,
  then_nx, then_ret, then_rof, then_brk, then_cnt, ws_next, ws_brk, ws_cnt, ws_seq, ws_if, ws_ret, ws_rof, ws_drop, ws_set, ws_own, ws_asg, wo_TN, wo_TNil, wo_TCons, wo_TTup, ws_ap, ws_setIx, ws_for, for_nil, turn_nx, turn_cnt, turn_brk, turn_ret, turn_rof, wm_lc, end_ret, end_nx, end_rof, end_io, ownOf_own, valOf_val, frz_val, frz_own, cOwn_own, peek_val, peek_own, by_val, by_own, canSet_none, canSet_val, canSet_own, lstOf_list,
  List.getElem?_cons_zero, List.getElem?_cons_succ, List.set_cons_zero, List.set_cons_succ, List.length_cons, List.length_nil, wo_ite, wo_bind, ↓reduceIte, and_true, true_and, and_self, Bool.false_eq_true, Bool.not_true, Bool.not_false, decide_eq_true_eq, decide_true, decide_false, oneInt_int, twoInts_int,
  add_ii, add_ll, add_tt, add_ss, sub_ii, mul_ii, mulS_ii, mod_ii, fdiv_ii, neg_i, le_ii, gt_ii, ge_ii, eqT_ii, eqT_ss, eqT_bb, eqT_nn, ltT_ii, ltT_ss, wo_eqD, wo_neD, wo_ltD, wo_inD, wo_ninD, is_n, isnt_n, is_bb, isnt_bb, isN, bOf_b, iOf_i, tru_b, tru_n, tru_i, tru_l, tru_t, seq_l, seq_t, tup_l, tup_t, lst_l, lst_t, len_l, len_t, int_i, int_b, abs_i, max_ii, min_ii, ix_li, ix_ti, cut_l, cut_t, flat_i, flat_b, flat_s, ix0, ix1, ix2, mkTup, mkLst,
  wm_reve, rev_l, rev_t, wm_opBL, repr_l, sort_l, sum_l, wm_enum, enum_l, enum_t, enumL_nil, wm_dic, wm_kvn, wm_kvc, seq_s, mulT_si, len_s, ord_c, str_i, ty_d, k_lb, k_li, k_ls, k_tb, k_ti, k_ts, k_db, k_di, k_ds, k_lt, k_tl,
  isi_1, ty_n, ty_b, ty_i, ty_s, ty_l, ty_t, k_nb, k_bb, k_ib, k_sb, k_ni, k_bi, k_ii, k_si, k_ns, k_bs, k_is, k_ss, k_ll, k_tt,
  Int.reduceNeg, Int.reducePow, Int.reduceLT, Int.reduceLE, Int.reduceAdd, Int.reduceSub, Int.reduceMul, Int.reduceToNat, Nat.reduceAdd, Nat.reduceLeDiff, Nat.reduceEqDiff, Int.reduceEq, reduceCtorEq, sp_digit]
  split
  · split
    · rw [if_pos (by decide)]
      have e4 : rngL 0 4 = [.int 0, .int 1, .int 2, .int 3] := rfl
      rw [e4]
      refine ws_forall (fun p ρ => ∃ (m num : Int) (o : Option Cell), canSet (some o) = some () ∧ 0 ≤ m ∧ m < 2 ^ 89 ∧ 0 ≤ num ∧ num < 2 ^ (90 * p.length + 1) ∧ ρ = [some (.val (.int c)), some (.val (.int k)), some (.val (.int 618970019642690137449562111)), some (.val (.int m)), some (.val (.int num)), o]) ⟨_, 0, none, rfl, Int.emod_nonneg _ (by decide), Int.lt_of_lt_of_le (Int.emod_lt_of_pos _ (by decide)) (by decide), by decide, by decide, rfl⟩ ?_ ?_
      · rintro p d r ρ e ⟨m, num, o, ho, hm0, hm1, hn0, hn1, rfl⟩
        have hp : p.length ≤ 3 := by
          have := congrArg List.length e
          simp at this
          omega
        obtain ⟨t, rfl⟩ : ∃ t : Int, d = .int t := by
          have hd : d ∈ ([.int 0, .int 1, .int 2, .int 3] : List D) := by rw [e]; simp
          simp only [List.mem_cons, List.not_mem_nil, or_false] at hd
          rcases hd with rfl | rfl | rfl | rfl <;> exact ⟨_, rfl⟩
        have hmn := nab hm0 hm1
        have hnn := nab hn0 hn1
        have g1 : m.natAbs.log2 + m.natAbs.log2 < 1000000 := log_ok _ _ hmn hmn (by omega)
        have g2 : (7 : Int).natAbs.log2 + m.natAbs.log2 < 1000000 := log_ok 4 _ (by decide) hmn (by omega)
        have g3 : num.natAbs.log2 + (618970019642690137449562111 : Int).natAbs.log2 < 1000000 := log_ok _ 90 hnn (by decide) (by omega)
        simp only [backE, wipeE, wo_some, wo_none, wm_c, wm_var, wm_frz, wm_bin, wm_un, wm_tst, wm_tru, wm_truB, wm_chain, wm_and, wm_or, wm_not, wm_andV, wm_orV, wm_notV, wm_ifE, wm_nil, wm_cons, wm_app, wm_noP, wm_part, wm_sl, wm_pk, wm_io, wm_ix, wm_inB, wm_true, wm_seq, wm_rng1, wm_rng2,
  then_nx, then_ret, then_rof, then_brk, then_cnt, ws_next, ws_brk, ws_cnt, ws_seq, ws_if, ws_ret, ws_rof, ws_drop, ws_set, ws_own, ws_asg, wo_TN, wo_TNil, wo_TCons, wo_TTup, ws_ap, ws_setIx, ws_for, for_nil, turn_nx, turn_cnt, turn_brk, turn_ret, turn_rof, wm_lc, end_ret, end_nx, end_rof, end_io, ownOf_own, valOf_val, frz_val, frz_own, cOwn_own, peek_val, peek_own, by_val, by_own, canSet_none, canSet_val, canSet_own, lstOf_list,
  List.getElem?_cons_zero, List.getElem?_cons_succ, List.set_cons_zero, List.set_cons_succ, List.length_cons, List.length_nil, wo_ite, wo_bind, ↓reduceIte, and_true, true_and, and_self, Bool.false_eq_true, Bool.not_true, Bool.not_false, decide_eq_true_eq, decide_true, decide_false, oneInt_int, twoInts_int,
  add_ii, add_ll, add_tt, add_ss, sub_ii, mul_ii, mulS_ii, mod_ii, fdiv_ii, neg_i, le_ii, gt_ii, ge_ii, eqT_ii, eqT_ss, eqT_bb, eqT_nn, ltT_ii, ltT_ss, wo_eqD, wo_neD, wo_ltD, wo_inD, wo_ninD, is_n, isnt_n, is_bb, isnt_bb, isN, bOf_b, iOf_i, tru_b, tru_n, tru_i, tru_l, tru_t, seq_l, seq_t, tup_l, tup_t, lst_l, lst_t, len_l, len_t, int_i, int_b, abs_i, max_ii, min_ii, ix_li, ix_ti, cut_l, cut_t, flat_i, flat_b, flat_s, ix0, ix1, ix2, mkTup, mkLst,
  wm_reve, rev_l, rev_t, wm_opBL, repr_l, sort_l, sum_l, wm_enum, enum_l, enum_t, enumL_nil, wm_dic, wm_kvn, wm_kvc, seq_s, mulT_si, len_s, ord_c, str_i, ty_d, k_lb, k_li, k_ls, k_tb, k_ti, k_ts, k_db, k_di, k_ds, k_lt, k_tl,
  isi_1, ty_n, ty_b, ty_i, ty_s, ty_l, ty_t, k_nb, k_bb, k_ib, k_sb, k_ni, k_bi, k_ii, k_si, k_ns, k_bs, k_is, k_ss, k_ll, k_tt,
  Int.reduceNeg, Int.reducePow, Int.reduceLT, Int.reduceLE, Int.reduceAdd, Int.reduceSub, Int.reduceMul, Int.reduceToNat, Nat.reduceAdd, Nat.reduceLeDiff, Nat.reduceEqDiff, Int.reduceEq, reduceCtorEq, g1, g2, g3, ho]
        have hr0 := Int.emod_nonneg (m * m + 7 * m + k + t) (show (618970019642690137449562111 : Int) ≠ 0 by decide)
        have hr1 := Int.emod_lt_of_pos (m * m + 7 * m + k + t) (show (0 : Int) < 618970019642690137449562111 by decide)
        generalize (m * m + 7 * m + k + t) % 618970019642690137449562111 = m' at hr0 hr1 ⊢
        refine ⟨.inl trivial, m', num * 618970019642690137449562111 + m', _, rfl, hr0, Int.lt_of_lt_of_le hr1 (by decide), ?_, ?_, rfl⟩
        · have := Int.mul_nonneg hn0 (show (0 : Int) ≤ 618970019642690137449562111 by decide)
          omega
        · rw [List.length_append]
          show _ < (2 : Int) ^ (90 * (p.length + 1) + 1)
          have h2 : (2 : Int) ^ (90 * (p.length + 1) + 1) = 2 ^ (90 * p.length + 1) * 2 ^ 90 := by rw [← Int.pow_add]; congr 1
          rw [h2]
          have h3 : num * 618970019642690137449562111 ≤ (2 ^ (90 * p.length + 1) - 1) * 618970019642690137449562111 := Int.mul_le_mul_of_nonneg_right (by omega) (by decide)
          have h4 : (1 : Int) ≤ 2 ^ (90 * p.length + 1) := by omega
          generalize (2 : Int) ^ (90 * p.length + 1) = b at h3 h4 ⊢
          have h5 : (2 : Int) ^ 90 = 1237940039285380274899124224 := by decide
          rw [h5]
          omega
      · rintro ρ' ⟨m, num, o, _, _, _, _, _, rfl⟩
        simp only [backE, wipeE, wo_some, wo_none, wm_c, wm_var, wm_frz, wm_bin, wm_un, wm_tst, wm_tru, wm_truB, wm_chain, wm_and, wm_or, wm_not, wm_andV, wm_orV, wm_notV, wm_ifE, wm_nil, wm_cons, wm_app, wm_noP, wm_part, wm_sl, wm_pk, wm_io, wm_ix, wm_inB, wm_true, wm_seq, wm_rng1, wm_rng2,
  then_nx, then_ret, then_rof, then_brk, then_cnt, ws_next, ws_brk, ws_cnt, ws_seq, ws_if, ws_ret, ws_rof, ws_drop, ws_set, ws_own, ws_asg, wo_TN, wo_TNil, wo_TCons, wo_TTup, ws_ap, ws_setIx, ws_for, for_nil, turn_nx, turn_cnt, turn_brk, turn_ret, turn_rof, wm_lc, end_ret, end_nx, end_rof, end_io, ownOf_own, valOf_val, frz_val, frz_own, cOwn_own, peek_val, peek_own, by_val, by_own, canSet_none, canSet_val, canSet_own, lstOf_list,
  List.getElem?_cons_zero, List.getElem?_cons_succ, List.set_cons_zero, List.set_cons_succ, List.length_cons, List.length_nil, wo_ite, wo_bind, ↓reduceIte, and_true, true_and, and_self, Bool.false_eq_true, Bool.not_true, Bool.not_false, decide_eq_true_eq, decide_true, decide_false, oneInt_int, twoInts_int,
  add_ii, add_ll, add_tt, add_ss, sub_ii, mul_ii, mulS_ii, mod_ii, fdiv_ii, neg_i, le_ii, gt_ii, ge_ii, eqT_ii, eqT_ss, eqT_bb, eqT_nn, ltT_ii, ltT_ss, wo_eqD, wo_neD, wo_ltD, wo_inD, wo_ninD, is_n, isnt_n, is_bb, isnt_bb, isN, bOf_b, iOf_i, tru_b, tru_n, tru_i, tru_l, tru_t, seq_l, seq_t, tup_l, tup_t, lst_l, lst_t, len_l, len_t, int_i, int_b, abs_i, max_ii, min_ii, ix_li, ix_ti, cut_l, cut_t, flat_i, flat_b, flat_s, ix0, ix1, ix2, mkTup, mkLst,
  wm_reve, rev_l, rev_t, wm_opBL, repr_l, sort_l, sum_l, wm_enum, enum_l, enum_t, enumL_nil, wm_dic, wm_kvn, wm_kvc, seq_s, mulT_si, len_s, ord_c, str_i, ty_d, k_lb, k_li, k_ls, k_tb, k_ti, k_ts, k_db, k_di, k_ds, k_lt, k_tl,
  isi_1, ty_n, ty_b, ty_i, ty_s, ty_l, ty_t, k_nb, k_bb, k_ib, k_sb, k_ni, k_bi, k_ii, k_si, k_ns, k_bs, k_is, k_ss, k_ll, k_tt,
  Int.reduceNeg, Int.reducePow, Int.reduceLT, Int.reduceLE, Int.reduceAdd, Int.reduceSub, Int.reduceMul, Int.reduceToNat, Nat.reduceAdd, Nat.reduceLeDiff, Nat.reduceEqDiff, Int.reduceEq, reduceCtorEq]
        exact q _
    · exact q _
  · exact q _
theorem wo_cell {ns : List Int} {k : Int} {Q : D → Prop} (hk : 0 ≤ k) (q : ∀ n : Int, Q (.int n)) : Wo (f__law_cell [.list (ns.map PyData.int), .int k]) Q := by
  unfold f__law_cell
  rw [wo_runV]
  show Ws g__law_cell [some (.val (.list (ns.map PyData.int))), some (.val (.int k))] _
  unfold g__law_cell
  simp only [backE, wipeE, wo_some, wo_none, wm_c, wm_var, wm_frz, wm_bin, wm_un, wm_tst, wm_tru, wm_truB, wm_chain, wm_and, wm_or, wm_not, wm_andV, wm_orV, wm_notV, wm_ifE, wm_nil, wm_cons, wm_app, wm_noP, wm_part, wm_sl, wm_pk, wm_io, wm_ix, wm_inB, wm_true, wm_seq, wm_rng1, wm_rng2,
  then_nx, then_ret, then_rof, then_brk, then_cnt, ws_next, ws_brk, ws_cnt, ws_seq, ws_if, ws_ret, ws_rof, ws_drop, ws_set, ws_own, ws_asg, wo_TN, wo_TNil, wo_TCons, wo_TTup, ws_ap, ws_setIx, ws_for, for_nil, turn_nx, turn_cnt, turn_brk, turn_ret, turn_rof, wm_lc, end_ret, end_nx, end_rof, end_io, ownOf_own, valOf_val, frz_val, frz_own, cOwn_own, peek_val, peek_own, by_val, by_own, canSet_none, canSet_val, canSet_own, lstOf_list,
  List.getElem?_cons_zero, List.getElem?_cons_succ, List.set_cons_zero, List.set_cons_succ, List.length_cons, List.length_nil, wo_ite, wo_bind, ↓reduceIte, and_true, true_and, and_self, Bool.false_eq_true, Bool.not_true, Bool.not_false, decide_eq_true_eq, decide_true, decide_false, oneInt_int, twoInts_int,
  add_ii, add_ll, add_tt, add_ss, sub_ii, mul_ii, mulS_ii, mod_ii, fdiv_ii, neg_i, le_ii, gt_ii, ge_ii, eqT_ii, eqT_ss, eqT_bb, eqT_nn, ltT_ii, ltT_ss, wo_eqD, wo_neD, wo_ltD, wo_inD, wo_ninD, is_n, isnt_n, is_bb, isnt_bb, isN, bOf_b, iOf_i, tru_b, tru_n, tru_i, tru_l, tru_t, seq_l, seq_t, tup_l, tup_t, lst_l, lst_t, len_l, len_t, int_i, int_b, abs_i, max_ii, min_ii, ix_li, ix_ti, cut_l, cut_t, flat_i, flat_b, flat_s, ix0, ix1, ix2, mkTup, mkLst,
  wm_reve, rev_l, rev_t, wm_opBL, repr_l, sort_l, sum_l, wm_enum, enum_l, enum_t, enumL_nil, wm_dic, wm_kvn, wm_kvc, seq_s, mulT_si, len_s, ord_c, str_i, ty_d, k_lb, k_li, k_ls, k_tb, k_ti, k_ts, k_db, k_di, k_ds, k_lt, k_tl,
  isi_1, ty_n, ty_b, ty_i, ty_s, ty_l, ty_t, k_nb, k_bb, k_ib, k_sb, k_ni, k_bi, k_ii, k_si, k_ns, k_bs, k_is, k_ss, k_ll, k_tt,
  Int.reduceNeg, Int.reducePow, Int.reduceLT, Int.reduceLE, Int.reduceAdd, Int.reduceSub, Int.reduceMul, Int.reduceToNat, Nat.reduceAdd, Nat.reduceLeDiff, Nat.reduceEqDiff, Int.reduceEq, reduceCtorEq]
  split
  · rename_i h
    refine wo_ix hk (by simpa using h) fun x hx => ?_
    obtain ⟨n, _, rfl⟩ := List.mem_map.mp hx
    exact q n
  · exact q _

theorem sp_vo {d : D} (h : gv d) : f_value_order [d] = some (vo d) := by
  rw [← wo_eq]
  unfold f_value_order
  rw [wo_runV]
  show Ws g_value_order [some (.val d)] _
  unfold g_value_order
  rcases gv_cases h with rfl | ⟨b, rfl⟩ | ⟨i, rfl⟩ | ⟨s, rfl⟩ <;> simp only [backE, wipeE, wo_some, wo_none, wm_c, wm_var, wm_frz, wm_bin, wm_un, wm_tst, wm_tru, wm_truB, wm_chain, wm_and, wm_or, wm_not, wm_andV, wm_orV, wm_notV, wm_ifE, wm_nil, wm_cons, wm_app, wm_noP, wm_part, wm_sl, wm_pk, wm_io, wm_ix, wm_inB, wm_true, wm_seq, wm_rng1, wm_rng2,
  then_nx, then_ret, then_rof, then_brk, then_cnt, ws_next, ws_brk, ws_cnt, ws_seq, ws_if, ws_ret, ws_rof, ws_drop, ws_set, ws_own, ws_asg, wo_TN, wo_TNil, wo_TCons, wo_TTup, ws_ap, ws_setIx, ws_for, for_nil, turn_nx, turn_cnt, turn_brk, turn_ret, turn_rof, wm_lc, end_ret, end_nx, end_rof, end_io, ownOf_own, valOf_val, frz_val, frz_own, cOwn_own, peek_val, peek_own, by_val, by_own, canSet_none, canSet_val, canSet_own, lstOf_list,
  List.getElem?_cons_zero, List.getElem?_cons_succ, List.set_cons_zero, List.set_cons_succ, List.length_cons, List.length_nil, wo_ite, wo_bind, ↓reduceIte, and_true, true_and, and_self, Bool.false_eq_true, Bool.not_true, Bool.not_false, decide_eq_true_eq, decide_true, decide_false, oneInt_int, twoInts_int,
  add_ii, add_ll, add_tt, add_ss, sub_ii, mul_ii, mulS_ii, mod_ii, fdiv_ii, neg_i, le_ii, gt_ii, ge_ii, eqT_ii, eqT_ss, eqT_bb, eqT_nn, ltT_ii, ltT_ss, wo_eqD, wo_neD, wo_ltD, wo_inD, wo_ninD, is_n, isnt_n, is_bb, isnt_bb, isN, bOf_b, iOf_i, tru_b, tru_n, tru_i, tru_l, tru_t, seq_l, seq_t, tup_l, tup_t, lst_l, lst_t, len_l, len_t, int_i, int_b, abs_i, max_ii, min_ii, ix_li, ix_ti, cut_l, cut_t, flat_i, flat_b, flat_s, ix0, ix1, ix2, mkTup, mkLst,
  wm_reve, rev_l, rev_t, wm_opBL, repr_l, sort_l, sum_l, wm_enum, enum_l, enum_t, enumL_nil, wm_dic, wm_kvn, wm_kvc, seq_s, mulT_si, len_s, ord_c, str_i, ty_d, k_lb, k_li, k_ls, k_tb, k_ti, k_ts, k_db, k_di, k_ds, k_lt, k_tl,
  isi_1, ty_n, ty_b, ty_i, ty_s, ty_l, ty_t, k_nb, k_bb, k_ib, k_sb, k_ni, k_bi, k_ii, k_si, k_ns, k_bs, k_is, k_ss, k_ll, k_tt,
  Int.reduceNeg, Int.reducePow, Int.reduceLT, Int.reduceLE, Int.reduceAdd, Int.reduceSub, Int.reduceMul, Int.reduceToNat, Nat.reduceAdd, Nat.reduceLeDiff, Nat.reduceEqDiff, Int.reduceEq, reduceCtorEq, vo]
theorem sp_rank {d : D} (h : gv d) : f__law_rank [d] = some (.int (rk d)) := by
  rw [← wo_eq]
  unfold f__law_rank
  rw [wo_runV]
  show Ws g__law_rank [some (.val d)] _
  unfold g__law_rank
  rcases gv_cases h with rfl | ⟨b, rfl⟩ | ⟨i, rfl⟩ | ⟨s, rfl⟩ <;> simp only [backE, wipeE, wo_some, wo_none, wm_c, wm_var, wm_frz, wm_bin, wm_un, wm_tst, wm_tru, wm_truB, wm_chain, wm_and, wm_or, wm_not, wm_andV, wm_orV, wm_notV, wm_ifE, wm_nil, wm_cons, wm_app, wm_noP, wm_part, wm_sl, wm_pk, wm_io, wm_ix, wm_inB, wm_true, wm_seq, wm_rng1, wm_rng2,
  then_nx, then_ret, then_rof, then_brk, then_cnt, ws_next, ws_brk, ws_cnt, ws_seq, ws_if, ws_ret, ws_rof, ws_drop, ws_set, ws_own, ws_asg, wo_TN, wo_TNil, wo_TCons, wo_TTup, ws_ap, ws_setIx, ws_for, for_nil, turn_nx, turn_cnt, turn_brk, turn_ret, turn_rof, wm_lc, end_ret, end_nx, end_rof, end_io, ownOf_own, valOf_val, frz_val, frz_own, cOwn_own, peek_val, peek_own, by_val, by_own, canSet_none, canSet_val, canSet_own, lstOf_list,
  List.getElem?_cons_zero, List.getElem?_cons_succ, List.set_cons_zero, List.set_cons_succ, List.length_cons, List.length_nil, wo_ite, wo_bind, ↓reduceIte, and_true, true_and, and_self, Bool.false_eq_true, Bool.not_true, Bool.not_false, decide_eq_true_eq, decide_true, decide_false, oneInt_int, twoInts_int,
  add_ii, add_ll, add_tt, add_ss, sub_ii, mul_ii, mulS_ii, mod_ii, fdiv_ii, neg_i, le_ii, gt_ii, ge_ii, eqT_ii, eqT_ss, eqT_bb, eqT_nn, ltT_ii, ltT_ss, wo_eqD, wo_neD, wo_ltD, wo_inD, wo_ninD, is_n, isnt_n, is_bb, isnt_bb, isN, bOf_b, iOf_i, tru_b, tru_n, tru_i, tru_l, tru_t, seq_l, seq_t, tup_l, tup_t, lst_l, lst_t, len_l, len_t, int_i, int_b, abs_i, max_ii, min_ii, ix_li, ix_ti, cut_l, cut_t, flat_i, flat_b, flat_s, ix0, ix1, ix2, mkTup, mkLst,
  wm_reve, rev_l, rev_t, wm_opBL, repr_l, sort_l, sum_l, wm_enum, enum_l, enum_t, enumL_nil, wm_dic, wm_kvn, wm_kvc, seq_s, mulT_si, len_s, ord_c, str_i, ty_d, k_lb, k_li, k_ls, k_tb, k_ti, k_ts, k_db, k_di, k_ds, k_lt, k_tl,
  isi_1, ty_n, ty_b, ty_i, ty_s, ty_l, ty_t, k_nb, k_bb, k_ib, k_sb, k_ni, k_bi, k_ii, k_si, k_ns, k_bs, k_is, k_ss, k_ll, k_tt,
  Int.reduceNeg, Int.reducePow, Int.reduceLT, Int.reduceLE, Int.reduceAdd, Int.reduceSub, Int.reduceMul, Int.reduceToNat, Nat.reduceAdd, Nat.reduceLeDiff, Nat.reduceEqDiff, Int.reduceEq, reduceCtorEq, rk]
theorem sp_before {a b : D} (ha : gv a) (hb : gv b) : f__law_before [a, b] = some (.bool (ltV a b)) := by
  rw [← wo_eq]
  unfold f__law_before
  rw [wo_runV]
  show Ws g__law_before [some (.val a), some (.val b)] _
  unfold g__law_before
  simp only [backE, wipeE, wo_some, wo_none, wm_c, wm_var, wm_frz, wm_bin, wm_un, wm_tst, wm_tru, wm_truB, wm_chain, wm_and, wm_or, wm_not, wm_andV, wm_orV, wm_notV, wm_ifE, wm_nil, wm_cons, wm_app, wm_noP, wm_part, wm_sl, wm_pk, wm_io, wm_ix, wm_inB, wm_true, wm_seq, wm_rng1, wm_rng2,
  then_nx, then_ret, then_rof, then_brk, then_cnt, ws_next, ws_brk, ws_cnt, ws_seq, ws_if, ws_ret, ws_rof, ws_drop, ws_set, ws_own, ws_asg, wo_TN, wo_TNil, wo_TCons, wo_TTup, ws_ap, ws_setIx, ws_for, for_nil, turn_nx, turn_cnt, turn_brk, turn_ret, turn_rof, wm_lc, end_ret, end_nx, end_rof, end_io, ownOf_own, valOf_val, frz_val, frz_own, cOwn_own, peek_val, peek_own, by_val, by_own, canSet_none, canSet_val, canSet_own, lstOf_list,
  List.getElem?_cons_zero, List.getElem?_cons_succ, List.set_cons_zero, List.set_cons_succ, List.length_cons, List.length_nil, wo_ite, wo_bind, ↓reduceIte, and_true, true_and, and_self, Bool.false_eq_true, Bool.not_true, Bool.not_false, decide_eq_true_eq, decide_true, decide_false, oneInt_int, twoInts_int,
  add_ii, add_ll, add_tt, add_ss, sub_ii, mul_ii, mulS_ii, mod_ii, fdiv_ii, neg_i, le_ii, gt_ii, ge_ii, eqT_ii, eqT_ss, eqT_bb, eqT_nn, ltT_ii, ltT_ss, wo_eqD, wo_neD, wo_ltD, wo_inD, wo_ninD, is_n, isnt_n, is_bb, isnt_bb, isN, bOf_b, iOf_i, tru_b, tru_n, tru_i, tru_l, tru_t, seq_l, seq_t, tup_l, tup_t, lst_l, lst_t, len_l, len_t, int_i, int_b, abs_i, max_ii, min_ii, ix_li, ix_ti, cut_l, cut_t, flat_i, flat_b, flat_s, ix0, ix1, ix2, mkTup, mkLst,
  wm_reve, rev_l, rev_t, wm_opBL, repr_l, sort_l, sum_l, wm_enum, enum_l, enum_t, enumL_nil, wm_dic, wm_kvn, wm_kvc, seq_s, mulT_si, len_s, ord_c, str_i, ty_d, k_lb, k_li, k_ls, k_tb, k_ti, k_ts, k_db, k_di, k_ds, k_lt, k_tl,
  isi_1, ty_n, ty_b, ty_i, ty_s, ty_l, ty_t, k_nb, k_bb, k_ib, k_sb, k_ni, k_bi, k_ii, k_si, k_ns, k_bs, k_is, k_ss, k_ll, k_tt,
  Int.reduceNeg, Int.reducePow, Int.reduceLT, Int.reduceLE, Int.reduceAdd, Int.reduceSub, Int.reduceMul, Int.reduceToNat, Nat.reduceAdd, Nat.reduceLeDiff, Nat.reduceEqDiff, Int.reduceEq, reduceCtorEq, sp_rank ha, sp_rank hb]
  unfold ltV
  by_cases h : rk a = rk b
  · simp only [h, decide_true, Bool.not_true, Bool.false_eq_true, ↓reduceIte, ne_eq, not_true_eq_false]
    rcases gv_cases ha with rfl | ⟨p, rfl⟩ | ⟨i, rfl⟩ | ⟨s, rfl⟩ <;> rcases gv_cases hb with rfl | ⟨q, rfl⟩ | ⟨j, rfl⟩ | ⟨t, rfl⟩ <;> simp only [rk] at h ⊢ <;> first | (exfalso; (repeat' split at h) <;> omega) | skip
    · simp
    · cases q <;> simp
    · simp only [backE, wipeE, wo_some, wo_none, wm_c, wm_var, wm_frz, wm_bin, wm_un, wm_tst, wm_tru, wm_truB, wm_chain, wm_and, wm_or, wm_not, wm_andV, wm_orV, wm_notV, wm_ifE, wm_nil, wm_cons, wm_app, wm_noP, wm_part, wm_sl, wm_pk, wm_io, wm_ix, wm_inB, wm_true, wm_seq, wm_rng1, wm_rng2,
  then_nx, then_ret, then_rof, then_brk, then_cnt, ws_next, ws_brk, ws_cnt, ws_seq, ws_if, ws_ret, ws_rof, ws_drop, ws_set, ws_own, ws_asg, wo_TN, wo_TNil, wo_TCons, wo_TTup, ws_ap, ws_setIx, ws_for, for_nil, turn_nx, turn_cnt, turn_brk, turn_ret, turn_rof, wm_lc, end_ret, end_nx, end_rof, end_io, ownOf_own, valOf_val, frz_val, frz_own, cOwn_own, peek_val, peek_own, by_val, by_own, canSet_none, canSet_val, canSet_own, lstOf_list,
  List.getElem?_cons_zero, List.getElem?_cons_succ, List.set_cons_zero, List.set_cons_succ, List.length_cons, List.length_nil, wo_ite, wo_bind, ↓reduceIte, and_true, true_and, and_self, Bool.false_eq_true, Bool.not_true, Bool.not_false, decide_eq_true_eq, decide_true, decide_false, oneInt_int, twoInts_int,
  add_ii, add_ll, add_tt, add_ss, sub_ii, mul_ii, mulS_ii, mod_ii, fdiv_ii, neg_i, le_ii, gt_ii, ge_ii, eqT_ii, eqT_ss, eqT_bb, eqT_nn, ltT_ii, ltT_ss, wo_eqD, wo_neD, wo_ltD, wo_inD, wo_ninD, is_n, isnt_n, is_bb, isnt_bb, isN, bOf_b, iOf_i, tru_b, tru_n, tru_i, tru_l, tru_t, seq_l, seq_t, tup_l, tup_t, lst_l, lst_t, len_l, len_t, int_i, int_b, abs_i, max_ii, min_ii, ix_li, ix_ti, cut_l, cut_t, flat_i, flat_b, flat_s, ix0, ix1, ix2, mkTup, mkLst,
  wm_reve, rev_l, rev_t, wm_opBL, repr_l, sort_l, sum_l, wm_enum, enum_l, enum_t, enumL_nil, wm_dic, wm_kvn, wm_kvc, seq_s, mulT_si, len_s, ord_c, str_i, ty_d, k_lb, k_li, k_ls, k_tb, k_ti, k_ts, k_db, k_di, k_ds, k_lt, k_tl,
  isi_1, ty_n, ty_b, ty_i, ty_s, ty_l, ty_t, k_nb, k_bb, k_ib, k_sb, k_ni, k_bi, k_ii, k_si, k_ns, k_bs, k_is, k_ss, k_ll, k_tt,
  Int.reduceNeg, Int.reducePow, Int.reduceLT, Int.reduceLE, Int.reduceAdd, Int.reduceSub, Int.reduceMul, Int.reduceToNat, Nat.reduceAdd, Nat.reduceLeDiff, Nat.reduceEqDiff, Int.reduceEq, reduceCtorEq]
    · simp only [backE, wipeE, wo_some, wo_none, wm_c, wm_var, wm_frz, wm_bin, wm_un, wm_tst, wm_tru, wm_truB, wm_chain, wm_and, wm_or, wm_not, wm_andV, wm_orV, wm_notV, wm_ifE, wm_nil, wm_cons, wm_app, wm_noP, wm_part, wm_sl, wm_pk, wm_io, wm_ix, wm_inB, wm_true, wm_seq, wm_rng1, wm_rng2,
  then_nx, then_ret, then_rof, then_brk, then_cnt, ws_next, ws_brk, ws_cnt, ws_seq, ws_if, ws_ret, ws_rof, ws_drop, ws_set, ws_own, ws_asg, wo_TN, wo_TNil, wo_TCons, wo_TTup, ws_ap, ws_setIx, ws_for, for_nil, turn_nx, turn_cnt, turn_brk, turn_ret, turn_rof, wm_lc, end_ret, end_nx, end_rof, end_io, ownOf_own, valOf_val, frz_val, frz_own, cOwn_own, peek_val, peek_own, by_val, by_own, canSet_none, canSet_val, canSet_own, lstOf_list,
  List.getElem?_cons_zero, List.getElem?_cons_succ, List.set_cons_zero, List.set_cons_succ, List.length_cons, List.length_nil, wo_ite, wo_bind, ↓reduceIte, and_true, true_and, and_self, Bool.false_eq_true, Bool.not_true, Bool.not_false, decide_eq_true_eq, decide_true, decide_false, oneInt_int, twoInts_int,
  add_ii, add_ll, add_tt, add_ss, sub_ii, mul_ii, mulS_ii, mod_ii, fdiv_ii, neg_i, le_ii, gt_ii, ge_ii, eqT_ii, eqT_ss, eqT_bb, eqT_nn, ltT_ii, ltT_ss, wo_eqD, wo_neD, wo_ltD, wo_inD, wo_ninD, is_n, isnt_n, is_bb, isnt_bb, isN, bOf_b, iOf_i, tru_b, tru_n, tru_i, tru_l, tru_t, seq_l, seq_t, tup_l, tup_t, lst_l, lst_t, len_l, len_t, int_i, int_b, abs_i, max_ii, min_ii, ix_li, ix_ti, cut_l, cut_t, flat_i, flat_b, flat_s, ix0, ix1, ix2, mkTup, mkLst,
  wm_reve, rev_l, rev_t, wm_opBL, repr_l, sort_l, sum_l, wm_enum, enum_l, enum_t, enumL_nil, wm_dic, wm_kvn, wm_kvc, seq_s, mulT_si, len_s, ord_c, str_i, ty_d, k_lb, k_li, k_ls, k_tb, k_ti, k_ts, k_db, k_di, k_ds, k_lt, k_tl,
  isi_1, ty_n, ty_b, ty_i, ty_s, ty_l, ty_t, k_nb, k_bb, k_ib, k_sb, k_ni, k_bi, k_ii, k_si, k_ns, k_bs, k_is, k_ss, k_ll, k_tt,
  Int.reduceNeg, Int.reducePow, Int.reduceLT, Int.reduceLE, Int.reduceAdd, Int.reduceSub, Int.reduceMul, Int.reduceToNat, Nat.reduceAdd, Nat.reduceLeDiff, Nat.reduceEqDiff, Int.reduceEq, reduceCtorEq]
  · simp [h]

/-! aggregates -/
def pvD (p : D × Int) : D := .tuple [p.1, .int p.2]
def knownL (vs : List (D × Int)) : List (D × Int) := vs.filter fun p => !isN p.1
def ivD : D → Int
  | .int i => i
  | _ => 0
def bndD (n : Int) : D := if n > 1000000000 ∨ n < -1000000000 then .none else .int n
def cntL (vs : List (D × Int)) : Int := ((knownL vs).map (·.2)).sum
def totL (vs : List (D × Int)) : Int := ((knownL vs).map fun p => ivD p.1 * p.2).sum
def bestL (most : Bool) (b : D) (ks : List (D × Int)) : D := ks.foldl (fun b p => if (if most = true then ltV b p.1 else ltV p.1 b) = true then p.1 else b) b
theorem sp_bounded {n : Int} : f_bounded [.int n] = some (bndD n) := by
  rw [← wo_eq]
  unfold f_bounded
  rw [wo_runV]
  show Ws g_bounded [some (.val (.int n))] _
  unfold g_bounded
  simp only [backE, wipeE, wo_some, wo_none, wm_c, wm_var, wm_frz, wm_bin, wm_un, wm_tst, wm_tru, wm_truB, wm_chain, wm_and, wm_or, wm_not, wm_andV, wm_orV, wm_notV, wm_ifE, wm_nil, wm_cons, wm_app, wm_noP, wm_part, wm_sl, wm_pk, wm_io, wm_ix, wm_inB, wm_true, wm_seq, wm_rng1, wm_rng2,
  then_nx, then_ret, then_rof, then_brk, then_cnt, ws_next, ws_brk, ws_cnt, ws_seq, ws_if, ws_ret, ws_rof, ws_drop, ws_set, ws_own, ws_asg, wo_TN, wo_TNil, wo_TCons, wo_TTup, ws_ap, ws_setIx, ws_for, for_nil, turn_nx, turn_cnt, turn_brk, turn_ret, turn_rof, wm_lc, end_ret, end_nx, end_rof, end_io, ownOf_own, valOf_val, frz_val, frz_own, cOwn_own, peek_val, peek_own, by_val, by_own, canSet_none, canSet_val, canSet_own, lstOf_list,
  List.getElem?_cons_zero, List.getElem?_cons_succ, List.set_cons_zero, List.set_cons_succ, List.length_cons, List.length_nil, wo_ite, wo_bind, ↓reduceIte, and_true, true_and, and_self, Bool.false_eq_true, Bool.not_true, Bool.not_false, decide_eq_true_eq, decide_true, decide_false, oneInt_int, twoInts_int,
  add_ii, add_ll, add_tt, add_ss, sub_ii, mul_ii, mulS_ii, mod_ii, fdiv_ii, neg_i, le_ii, gt_ii, ge_ii, eqT_ii, eqT_ss, eqT_bb, eqT_nn, ltT_ii, ltT_ss, wo_eqD, wo_neD, wo_ltD, wo_inD, wo_ninD, is_n, isnt_n, is_bb, isnt_bb, isN, bOf_b, iOf_i, tru_b, tru_n, tru_i, tru_l, tru_t, seq_l, seq_t, tup_l, tup_t, lst_l, lst_t, len_l, len_t, int_i, int_b, abs_i, max_ii, min_ii, ix_li, ix_ti, cut_l, cut_t, flat_i, flat_b, flat_s, ix0, ix1, ix2, mkTup, mkLst,
  wm_reve, rev_l, rev_t, wm_opBL, repr_l, sort_l, sum_l, wm_enum, enum_l, enum_t, enumL_nil, wm_dic, wm_kvn, wm_kvc, seq_s, mulT_si, len_s, ord_c, str_i, ty_d, k_lb, k_li, k_ls, k_tb, k_ti, k_ts, k_db, k_di, k_ds, k_lt, k_tl,
  isi_1, ty_n, ty_b, ty_i, ty_s, ty_l, ty_t, k_nb, k_bb, k_ib, k_sb, k_ni, k_bi, k_ii, k_si, k_ns, k_bs, k_is, k_ss, k_ll, k_tt,
  Int.reduceNeg, Int.reducePow, Int.reduceLT, Int.reduceLE, Int.reduceAdd, Int.reduceSub, Int.reduceMul, Int.reduceToNat, Nat.reduceAdd, Nat.reduceLeDiff, Nat.reduceEqDiff, Int.reduceEq, reduceCtorEq]
  unfold bndD
  by_cases h : n < 0
  · by_cases h2 : n < -1000000000
    · simp only [h, ↓reduceIte, show (1000000000 < -n) by omega, show (n > 1000000000 ∨ n < -1000000000) from .inr h2]
    · simp only [h, ↓reduceIte, show ¬ (1000000000 < -n) by omega, show ¬ (n > 1000000000 ∨ n < -1000000000) by omega]
  · have h3 : ¬ n < -1000000000 := by omega
    by_cases h2 : 1000000000 < n
    · simp [h, h2, h3]
    · simp [h, h2, h3]
/-- values with weights -/
def gvw (vs : List (D × Int)) : Prop := ∀ p ∈ vs, gv p.1 ∧ isV p.1 = true ∧ 1 ≤ p.2 ∧ p.2 ≤ 1000000000
theorem known_g {vs : List (D × Int)} (h : gvw vs) : gvw (knownL vs) := fun p hp => h p (List.mem_filter.mp hp).1
theorem nums_w (ks : List (D × Int)) : numsOf (ks.map fun p => .int p.2) = some (ks.map (·.2)) := by
  have := nums_map (ks.map (·.2))
  rw [List.map_map] at this
  exact this
theorem cnt_b {ks : List (D × Int)} (h : gvw ks) : 0 ≤ (ks.map (·.2)).sum ∧ (ks.map (·.2)).sum ≤ 1000000000 * ks.length ∧ (ks ≠ [] → 1 ≤ (ks.map (·.2)).sum) := by
  induction ks with
  | nil => simp
  | cons p ks ih =>
    obtain ⟨h1, h2, h3, h4⟩ := h p List.mem_cons_self
    obtain ⟨i1, i2, _⟩ := ih fun q hq => h q (List.mem_cons_of_mem _ hq)
    simp only [List.map_cons, List.sum_cons, List.length_cons]
    refine ⟨by omega, ?_, fun _ => by omega⟩
    rw [Int.natCast_add, Int.mul_add]
    omega
theorem known_lc1 {vs : List (D × Int)} {ρ : Dn.Env} {Q : List D × Dn.Env → Prop} (h : ∀ p ∈ vs, Wo (gTTup 2 (gTCons (gTN 5) (gTCons (gTN 6) gTNil)) (pvD p) ρ) fun ρ1 => Wm (gTst (gBin isntD (gVar 5) (gC .none))) ρ1 fun b ρ2 => b = !isN p.1 ∧ (b = true → Wm (gApp mkTup (gCons (gVar 5) (gCons (gVar 6) gNil))) ρ2 fun y ρ3 => y = pvD p ∧ wipeE ρ3 [5, 6] = ρ) ∧ (b = false → wipeE ρ2 [5, 6] = ρ)) (q : Q ((knownL vs).map pvD, ρ)) :
    Wo (lcD [5, 6] (gTTup 2 (gTCons (gTN 5) (gTCons (gTN 6) gTNil))) (gTst (gBin isntD (gVar 5) (gC .none))) (gApp mkTup (gCons (gVar 5) (gCons (gVar 6) gNil))) (vs.map pvD) ρ) Q := lc_filterA pvD pvD (fun p => !isN p.1) vs h q
theorem bestL_mem (most : Bool) : ∀ (ks : List (D × Int)) (b : D), bestL most b ks = b ∨ ∃ p ∈ ks, bestL most b ks = p.1
  | [], b => .inl rfl
  | p :: ks, b => by
    show bestL most _ ks = b ∨ ∃ q ∈ p :: ks, bestL most _ ks = q.1
    rcases bestL_mem most ks (if (if most = true then ltV b p.1 else ltV p.1 b) = true then p.1 else b) with h | ⟨q, hq, h⟩
    · rw [h]
      cases (if most = true then ltV b p.1 else ltV p.1 b) with
      | true => exact .inr ⟨p, List.mem_cons_self, rfl⟩
      | false => exact .inl rfl
    · exact .inr ⟨q, List.mem_cons_of_mem _ hq, h⟩
theorem ltV_tr {a b c : D} (ha : gv a) (hb : gv b) (hc : gv c) (h1 : ltV b a = false) (h2 : ltV c b = false) : ltV c a = false := by
  rw [← cmp_vo hb ha] at h1
  rw [← cmp_vo hc hb] at h2
  rw [← cmp_vo hc ha]
  exact DnSo.swo3.tr _ _ _ h1 h2
theorem ltV_as {a b : D} (ha : gv a) (hb : gv b) (h : ltV a b = true) : ltV b a = false := by
  rw [← cmp_vo ha hb] at h
  rw [← cmp_vo hb ha]
  exact DnSo.swo3.asym _ _ h
/-- nothing is ahead of the least, nothing behind the most -/
theorem bestL_ext (most : Bool) : ∀ (ks : List (D × Int)) (b : D), gv b → (∀ p ∈ ks, gv p.1) → gv (bestL most b ks) ∧ ∀ d, (d = b ∨ ∃ p ∈ ks, d = p.1) → (if most = true then ltV (bestL most b ks) d else ltV d (bestL most b ks)) = false
  | [], b, gb, _ => ⟨gb, fun d h => by
    rcases h with rfl | ⟨p, hp, _⟩
    · show (if most = true then ltV d d else ltV d d) = false
      rw [ltV_irr gb]
      simp
    · cases hp⟩
  | p :: ks, b, gb, h => by
    have gp := h p List.mem_cons_self
    have gk := fun q hq => h q (List.mem_cons_of_mem p hq)
    show gv (bestL most (if (if most = true then ltV b p.1 else ltV p.1 b) = true then p.1 else b) ks) ∧ _
    cases hc : (if most = true then ltV b p.1 else ltV p.1 b) with
    | true =>
      obtain ⟨i1, i2⟩ := bestL_ext most ks p.1 gp gk
      have e : bestL most b (p :: ks) = bestL most p.1 ks := by
        show bestL most (if (if most = true then ltV b p.1 else ltV p.1 b) = true then p.1 else b) ks = _
        rw [hc, if_pos rfl]
      rw [if_pos rfl, e]
      refine ⟨i1, fun d hd => ?_⟩
      rcases hd with rfl | ⟨q, hq, rfl⟩
      · have h2 := i2 p.1 (.inl rfl)
        cases most with
        | true => exact ltV_tr gb gp i1 (ltV_as gb gp hc) h2
        | false => exact ltV_tr i1 gp gb h2 (ltV_as gp gb hc)
      · rcases List.mem_cons.mp hq with e2 | e2
        · subst e2
          exact i2 _ (.inl rfl)
        · exact i2 _ (.inr ⟨q, e2, rfl⟩)
    | false =>
      obtain ⟨i1, i2⟩ := bestL_ext most ks b gb gk
      have e : bestL most b (p :: ks) = bestL most b ks := by
        show bestL most (if (if most = true then ltV b p.1 else ltV p.1 b) = true then p.1 else b) ks = _
        rw [hc, if_neg (by decide)]
      rw [if_neg (by decide), e]
      refine ⟨i1, fun d hd => ?_⟩
      rcases hd with rfl | ⟨q, hq, rfl⟩
      · exact i2 _ (.inl rfl)
      · rcases List.mem_cons.mp hq with e2 | e2
        · subst e2
          have h2 := i2 b (.inl rfl)
          cases most with
          | true => exact ltV_tr gp gb i1 hc h2
          | false => exact ltV_tr i1 gb gp h2 hc
        · exact i2 _ (.inr ⟨q, e2, rfl⟩)
theorem find_for {m : D} (gm : gv m) {f0 f1 f2 : Option Cell} {R : Fl → Dn.Env → Prop} : ∀ (ks : List (D × Int)) (o4 o5 : Option Cell), canSet (some o4) = some () → canSet (some o5) = some () → (∀ p ∈ ks, gv p.1) → (∃ p ∈ ks, p.1 = m) → (∀ ρ, R (.ret m) ρ) →
    Ws (forD (gTTup 2 (gTCons (gTN 4) (gTCons (gTN 5) gTNil))) (sIf (gTst (gBin eqD (gApp f_value_order (gCons (gVar 4) gNil)) (gVar 3))) (sRet (gVar 4)) sNext) (ks.map pvD)) [f0, f1, f2, some (.val (vo m)), o4, o5] R
  | [], _, _, _, _, _, ⟨_, hp, _⟩, _ => by cases hp
  | p :: ks, o4, o5, h4, h5, hg, hm, k => by
    rw [List.map_cons, for_cons]
    have gp := hg p List.mem_cons_self
    unfold pvD
    simp only [backE, wipeE, wo_some, wo_none, wm_c, wm_var, wm_frz, wm_bin, wm_un, wm_tst, wm_tru, wm_truB, wm_chain, wm_and, wm_or, wm_not, wm_andV, wm_orV, wm_notV, wm_ifE, wm_nil, wm_cons, wm_app, wm_noP, wm_part, wm_sl, wm_pk, wm_io, wm_ix, wm_inB, wm_true, wm_seq, wm_rng1, wm_rng2,
  then_nx, then_ret, then_rof, then_brk, then_cnt, ws_next, ws_brk, ws_cnt, ws_seq, ws_if, ws_ret, ws_rof, ws_drop, ws_set, ws_own, ws_asg, wo_TN, wo_TNil, wo_TCons, wo_TTup, ws_ap, ws_setIx, ws_for, for_nil, turn_nx, turn_cnt, turn_brk, turn_ret, turn_rof, wm_lc, end_ret, end_nx, end_rof, end_io, ownOf_own, valOf_val, frz_val, frz_own, cOwn_own, peek_val, peek_own, by_val, by_own, canSet_none, canSet_val, canSet_own, lstOf_list,
  List.getElem?_cons_zero, List.getElem?_cons_succ, List.set_cons_zero, List.set_cons_succ, List.length_cons, List.length_nil, wo_ite, wo_bind, ↓reduceIte, and_true, true_and, and_self, Bool.false_eq_true, Bool.not_true, Bool.not_false, decide_eq_true_eq, decide_true, decide_false, oneInt_int, twoInts_int,
  add_ii, add_ll, add_tt, add_ss, sub_ii, mul_ii, mulS_ii, mod_ii, fdiv_ii, neg_i, le_ii, gt_ii, ge_ii, eqT_ii, eqT_ss, eqT_bb, eqT_nn, ltT_ii, ltT_ss, wo_eqD, wo_neD, wo_ltD, wo_inD, wo_ninD, is_n, isnt_n, is_bb, isnt_bb, isN, bOf_b, iOf_i, tru_b, tru_n, tru_i, tru_l, tru_t, seq_l, seq_t, tup_l, tup_t, lst_l, lst_t, len_l, len_t, int_i, int_b, abs_i, max_ii, min_ii, ix_li, ix_ti, cut_l, cut_t, flat_i, flat_b, flat_s, ix0, ix1, ix2, mkTup, mkLst,
  wm_reve, rev_l, rev_t, wm_opBL, repr_l, sort_l, sum_l, wm_enum, enum_l, enum_t, enumL_nil, wm_dic, wm_kvn, wm_kvc, seq_s, mulT_si, len_s, ord_c, str_i, ty_d, k_lb, k_li, k_ls, k_tb, k_ti, k_ts, k_db, k_di, k_ds, k_lt, k_tl,
  isi_1, ty_n, ty_b, ty_i, ty_s, ty_l, ty_t, k_nb, k_bb, k_ib, k_sb, k_ni, k_bi, k_ii, k_si, k_ns, k_bs, k_is, k_ss, k_ll, k_tt,
  Int.reduceNeg, Int.reducePow, Int.reduceLT, Int.reduceLE, Int.reduceAdd, Int.reduceSub, Int.reduceMul, Int.reduceToNat, Nat.reduceAdd, Nat.reduceLeDiff, Nat.reduceEqDiff, Int.reduceEq, reduceCtorEq, h4, h5, sp_vo gp, eqT_vo gp gm]
    by_cases hc : (!ltV p.1 m && !ltV m p.1) = true
    · rw [if_pos hc]
      have e : p.1 = m := by
        simp only [Bool.and_eq_true, Bool.not_eq_true'] at hc
        exact ltV_eq gp gm hc.1 hc.2
      rw [e]
      exact k _
    · rw [if_neg hc]
      have hm' : ∃ q ∈ ks, q.1 = m := by
        obtain ⟨q, hq, e⟩ := hm
        rcases List.mem_cons.mp hq with z | z
        · subst z
          exfalso
          apply hc
          rw [e, ltV_irr gm]
          rfl
        · exact ⟨q, z, e⟩
      exact find_for gm ks _ _ rfl rfl (fun q hq => hg q (List.mem_cons_of_mem _ hq)) hm' k
theorem sp_extreme {ks : List (D × Int)} {w : Str} {p0 : D × Int} (hw : w = "least" ∨ w = "most") (h0 : ks[0]? = some p0) (hg : ∀ p ∈ ks, gv p.1) (hl : ks.length ≤ 1000) : f_extreme [.list (ks.map pvD), .str w] = some (bestL (decide (w = "most")) p0.1 ks) := by
  have hp0 : p0 ∈ ks := List.mem_of_getElem? h0
  have hgk : ∀ v ∈ ks.map (·.1), gv v := fun v hv => by
    obtain ⟨p, hp, rfl⟩ := List.mem_map.mp hv
    exact hg p hp
  obtain ⟨us, es, hu, hpw⟩ := sort_vo hgk
  have hsl : us.length = ks.length := by rw [hu.length_eq, List.length_map]
  have hkl : 0 < ks.length := List.length_pos_of_mem hp0
  have gu : ∀ u ∈ us, gv u := fun u h => hgk u (hu.mem_iff.mp h)
  have hin : ∀ u ∈ us, ∃ p ∈ ks, p.1 = u := fun u h => by
    obtain ⟨p, hp, e⟩ := List.mem_map.mp (hu.mem_iff.mp h)
    exact ⟨p, hp, e⟩
  have hko : DnSo.sortOk (ks.map fun p => vo p.1) = true := by
    have := sortOk_vo hgk (by rw [List.length_map]; omega)
    rwa [List.map_map] at this
  have es' : (ks.map fun p => vo p.1).mergeSort DnSo.leD3 = us.map vo := by
    rw [← es, List.map_map]
    rfl
  obtain ⟨gb, hb⟩ := bestL_ext (decide (w = "most")) ks p0.1 (hg p0 hp0) hg
  have hbm : ∃ p ∈ ks, p.1 = bestL (decide (w = "most")) p0.1 ks := by
    rcases bestL_mem (decide (w = "most")) ks p0.1 with h | ⟨p, hp, h⟩
    · exact ⟨p0, hp0, h.symm⟩
    · exact ⟨p, hp, h.symm⟩
  rw [← wo_eq]
  unfold f_extreme
  rw [wo_runV]
  show Ws g_extreme [some (.val (.list (ks.map pvD))), some (.val (.str w)), none, none, none, none] _
  unfold g_extreme
  simp only [backE, wipeE, wo_some, wo_none, wm_c, wm_var, wm_frz, wm_bin, wm_un, wm_tst, wm_tru, wm_truB, wm_chain, wm_and, wm_or, wm_not, wm_andV, wm_orV, wm_notV, wm_ifE, wm_nil, wm_cons, wm_app, wm_noP, wm_part, wm_sl, wm_pk, wm_io, wm_ix, wm_inB, wm_true, wm_seq, wm_rng1, wm_rng2,
  then_nx, then_ret, then_rof, then_brk, then_cnt, ws_next, ws_brk, ws_cnt, ws_seq, ws_if, ws_ret, ws_rof, ws_drop, ws_set, ws_own, ws_asg, wo_TN, wo_TNil, wo_TCons, wo_TTup, ws_ap, ws_setIx, ws_for, for_nil, turn_nx, turn_cnt, turn_brk, turn_ret, turn_rof, wm_lc, end_ret, end_nx, end_rof, end_io, ownOf_own, valOf_val, frz_val, frz_own, cOwn_own, peek_val, peek_own, by_val, by_own, canSet_none, canSet_val, canSet_own, lstOf_list,
  List.getElem?_cons_zero, List.getElem?_cons_succ, List.set_cons_zero, List.set_cons_succ, List.length_cons, List.length_nil, wo_ite, wo_bind, ↓reduceIte, and_true, true_and, and_self, Bool.false_eq_true, Bool.not_true, Bool.not_false, decide_eq_true_eq, decide_true, decide_false, oneInt_int, twoInts_int,
  add_ii, add_ll, add_tt, add_ss, sub_ii, mul_ii, mulS_ii, mod_ii, fdiv_ii, neg_i, le_ii, gt_ii, ge_ii, eqT_ii, eqT_ss, eqT_bb, eqT_nn, ltT_ii, ltT_ss, wo_eqD, wo_neD, wo_ltD, wo_inD, wo_ninD, is_n, isnt_n, is_bb, isnt_bb, isN, bOf_b, iOf_i, tru_b, tru_n, tru_i, tru_l, tru_t, seq_l, seq_t, tup_l, tup_t, lst_l, lst_t, len_l, len_t, int_i, int_b, abs_i, max_ii, min_ii, ix_li, ix_ti, cut_l, cut_t, flat_i, flat_b, flat_s, ix0, ix1, ix2, mkTup, mkLst,
  wm_reve, rev_l, rev_t, wm_opBL, repr_l, sort_l, sum_l, wm_enum, enum_l, enum_t, enumL_nil, wm_dic, wm_kvn, wm_kvc, seq_s, mulT_si, len_s, ord_c, str_i, ty_d, k_lb, k_li, k_ls, k_tb, k_ti, k_ts, k_db, k_di, k_ds, k_lt, k_tl,
  isi_1, ty_n, ty_b, ty_i, ty_s, ty_l, ty_t, k_nb, k_bb, k_ib, k_sb, k_ni, k_bi, k_ii, k_si, k_ns, k_bs, k_is, k_ss, k_ll, k_tt,
  Int.reduceNeg, Int.reducePow, Int.reduceLT, Int.reduceLE, Int.reduceAdd, Int.reduceSub, Int.reduceMul, Int.reduceToNat, Nat.reduceAdd, Nat.reduceLeDiff, Nat.reduceEqDiff, Int.reduceEq, reduceCtorEq, List.length_map]
  refine ⟨⟨by omega, rfl⟩, ?_⟩
  refine lc_mapA pvD (fun p => vo p.1) ks (fun p hp => ?_) ?_
  · unfold pvD
    simp only [backE, wipeE, wo_some, wo_none, wm_c, wm_var, wm_frz, wm_bin, wm_un, wm_tst, wm_tru, wm_truB, wm_chain, wm_and, wm_or, wm_not, wm_andV, wm_orV, wm_notV, wm_ifE, wm_nil, wm_cons, wm_app, wm_noP, wm_part, wm_sl, wm_pk, wm_io, wm_ix, wm_inB, wm_true, wm_seq, wm_rng1, wm_rng2,
  then_nx, then_ret, then_rof, then_brk, then_cnt, ws_next, ws_brk, ws_cnt, ws_seq, ws_if, ws_ret, ws_rof, ws_drop, ws_set, ws_own, ws_asg, wo_TN, wo_TNil, wo_TCons, wo_TTup, ws_ap, ws_setIx, ws_for, for_nil, turn_nx, turn_cnt, turn_brk, turn_ret, turn_rof, wm_lc, end_ret, end_nx, end_rof, end_io, ownOf_own, valOf_val, frz_val, frz_own, cOwn_own, peek_val, peek_own, by_val, by_own, canSet_none, canSet_val, canSet_own, lstOf_list,
  List.getElem?_cons_zero, List.getElem?_cons_succ, List.set_cons_zero, List.set_cons_succ, List.length_cons, List.length_nil, wo_ite, wo_bind, ↓reduceIte, and_true, true_and, and_self, Bool.false_eq_true, Bool.not_true, Bool.not_false, decide_eq_true_eq, decide_true, decide_false, oneInt_int, twoInts_int,
  add_ii, add_ll, add_tt, add_ss, sub_ii, mul_ii, mulS_ii, mod_ii, fdiv_ii, neg_i, le_ii, gt_ii, ge_ii, eqT_ii, eqT_ss, eqT_bb, eqT_nn, ltT_ii, ltT_ss, wo_eqD, wo_neD, wo_ltD, wo_inD, wo_ninD, is_n, isnt_n, is_bb, isnt_bb, isN, bOf_b, iOf_i, tru_b, tru_n, tru_i, tru_l, tru_t, seq_l, seq_t, tup_l, tup_t, lst_l, lst_t, len_l, len_t, int_i, int_b, abs_i, max_ii, min_ii, ix_li, ix_ti, cut_l, cut_t, flat_i, flat_b, flat_s, ix0, ix1, ix2, mkTup, mkLst,
  wm_reve, rev_l, rev_t, wm_opBL, repr_l, sort_l, sum_l, wm_enum, enum_l, enum_t, enumL_nil, wm_dic, wm_kvn, wm_kvc, seq_s, mulT_si, len_s, ord_c, str_i, ty_d, k_lb, k_li, k_ls, k_tb, k_ti, k_ts, k_db, k_di, k_ds, k_lt, k_tl,
  isi_1, ty_n, ty_b, ty_i, ty_s, ty_l, ty_t, k_nb, k_bb, k_ib, k_sb, k_ni, k_bi, k_ii, k_si, k_ns, k_bs, k_is, k_ss, k_ll, k_tt,
  Int.reduceNeg, Int.reducePow, Int.reduceLT, Int.reduceLE, Int.reduceAdd, Int.reduceSub, Int.reduceMul, Int.reduceToNat, Nat.reduceAdd, Nat.reduceLeDiff, Nat.reduceEqDiff, Int.reduceEq, reduceCtorEq, sp_vo (hg p hp)]
    all_goals rfl
  · simp only [backE, wipeE, wo_some, wo_none, wm_c, wm_var, wm_frz, wm_bin, wm_un, wm_tst, wm_tru, wm_truB, wm_chain, wm_and, wm_or, wm_not, wm_andV, wm_orV, wm_notV, wm_ifE, wm_nil, wm_cons, wm_app, wm_noP, wm_part, wm_sl, wm_pk, wm_io, wm_ix, wm_inB, wm_true, wm_seq, wm_rng1, wm_rng2,
  then_nx, then_ret, then_rof, then_brk, then_cnt, ws_next, ws_brk, ws_cnt, ws_seq, ws_if, ws_ret, ws_rof, ws_drop, ws_set, ws_own, ws_asg, wo_TN, wo_TNil, wo_TCons, wo_TTup, ws_ap, ws_setIx, ws_for, for_nil, turn_nx, turn_cnt, turn_brk, turn_ret, turn_rof, wm_lc, end_ret, end_nx, end_rof, end_io, ownOf_own, valOf_val, frz_val, frz_own, cOwn_own, peek_val, peek_own, by_val, by_own, canSet_none, canSet_val, canSet_own, lstOf_list,
  List.getElem?_cons_zero, List.getElem?_cons_succ, List.set_cons_zero, List.set_cons_succ, List.length_cons, List.length_nil, wo_ite, wo_bind, ↓reduceIte, and_true, true_and, and_self, Bool.false_eq_true, Bool.not_true, Bool.not_false, decide_eq_true_eq, decide_true, decide_false, oneInt_int, twoInts_int,
  add_ii, add_ll, add_tt, add_ss, sub_ii, mul_ii, mulS_ii, mod_ii, fdiv_ii, neg_i, le_ii, gt_ii, ge_ii, eqT_ii, eqT_ss, eqT_bb, eqT_nn, ltT_ii, ltT_ss, wo_eqD, wo_neD, wo_ltD, wo_inD, wo_ninD, is_n, isnt_n, is_bb, isnt_bb, isN, bOf_b, iOf_i, tru_b, tru_n, tru_i, tru_l, tru_t, seq_l, seq_t, tup_l, tup_t, lst_l, lst_t, len_l, len_t, int_i, int_b, abs_i, max_ii, min_ii, ix_li, ix_ti, cut_l, cut_t, flat_i, flat_b, flat_s, ix0, ix1, ix2, mkTup, mkLst,
  wm_reve, rev_l, rev_t, wm_opBL, repr_l, sort_l, sum_l, wm_enum, enum_l, enum_t, enumL_nil, wm_dic, wm_kvn, wm_kvc, seq_s, mulT_si, len_s, ord_c, str_i, ty_d, k_lb, k_li, k_ls, k_tb, k_ti, k_ts, k_db, k_di, k_ds, k_lt, k_tl,
  isi_1, ty_n, ty_b, ty_i, ty_s, ty_l, ty_t, k_nb, k_bb, k_ib, k_sb, k_ni, k_bi, k_ii, k_si, k_ns, k_bs, k_is, k_ss, k_ll, k_tt,
  Int.reduceNeg, Int.reducePow, Int.reduceLT, Int.reduceLE, Int.reduceAdd, Int.reduceSub, Int.reduceMul, Int.reduceToNat, Nat.reduceAdd, Nat.reduceLeDiff, Nat.reduceEqDiff, Int.reduceEq, reduceCtorEq, hko, es']
    rcases hw with rfl | rfl
    · obtain ⟨m, us', rfl⟩ : ∃ m us', us = m :: us' := by
        cases us with
        | nil => simp at hsl; omega
        | cons m us' => exact ⟨m, us', rfl⟩
      have e0 : ixA ((m :: us').map vo) 0 = some (vo m) := rfl
      simp only [backE, wipeE, wo_some, wo_none, wm_c, wm_var, wm_frz, wm_bin, wm_un, wm_tst, wm_tru, wm_truB, wm_chain, wm_and, wm_or, wm_not, wm_andV, wm_orV, wm_notV, wm_ifE, wm_nil, wm_cons, wm_app, wm_noP, wm_part, wm_sl, wm_pk, wm_io, wm_ix, wm_inB, wm_true, wm_seq, wm_rng1, wm_rng2,
  then_nx, then_ret, then_rof, then_brk, then_cnt, ws_next, ws_brk, ws_cnt, ws_seq, ws_if, ws_ret, ws_rof, ws_drop, ws_set, ws_own, ws_asg, wo_TN, wo_TNil, wo_TCons, wo_TTup, ws_ap, ws_setIx, ws_for, for_nil, turn_nx, turn_cnt, turn_brk, turn_ret, turn_rof, wm_lc, end_ret, end_nx, end_rof, end_io, ownOf_own, valOf_val, frz_val, frz_own, cOwn_own, peek_val, peek_own, by_val, by_own, canSet_none, canSet_val, canSet_own, lstOf_list,
  List.getElem?_cons_zero, List.getElem?_cons_succ, List.set_cons_zero, List.set_cons_succ, List.length_cons, List.length_nil, wo_ite, wo_bind, ↓reduceIte, and_true, true_and, and_self, Bool.false_eq_true, Bool.not_true, Bool.not_false, decide_eq_true_eq, decide_true, decide_false, oneInt_int, twoInts_int,
  add_ii, add_ll, add_tt, add_ss, sub_ii, mul_ii, mulS_ii, mod_ii, fdiv_ii, neg_i, le_ii, gt_ii, ge_ii, eqT_ii, eqT_ss, eqT_bb, eqT_nn, ltT_ii, ltT_ss, wo_eqD, wo_neD, wo_ltD, wo_inD, wo_ninD, is_n, isnt_n, is_bb, isnt_bb, isN, bOf_b, iOf_i, tru_b, tru_n, tru_i, tru_l, tru_t, seq_l, seq_t, tup_l, tup_t, lst_l, lst_t, len_l, len_t, int_i, int_b, abs_i, max_ii, min_ii, ix_li, ix_ti, cut_l, cut_t, flat_i, flat_b, flat_s, ix0, ix1, ix2, mkTup, mkLst,
  wm_reve, rev_l, rev_t, wm_opBL, repr_l, sort_l, sum_l, wm_enum, enum_l, enum_t, enumL_nil, wm_dic, wm_kvn, wm_kvc, seq_s, mulT_si, len_s, ord_c, str_i, ty_d, k_lb, k_li, k_ls, k_tb, k_ti, k_ts, k_db, k_di, k_ds, k_lt, k_tl,
  isi_1, ty_n, ty_b, ty_i, ty_s, ty_l, ty_t, k_nb, k_bb, k_ib, k_sb, k_ni, k_bi, k_ii, k_si, k_ns, k_bs, k_is, k_ss, k_ll, k_tt,
  Int.reduceNeg, Int.reducePow, Int.reduceLT, Int.reduceLE, Int.reduceAdd, Int.reduceSub, Int.reduceMul, Int.reduceToNat, Nat.reduceAdd, Nat.reduceLeDiff, Nat.reduceEqDiff, Int.reduceEq, reduceCtorEq, e0]
      have gm := gu m List.mem_cons_self
      have em : m = bestL (decide (("least" : Str) = "most")) p0.1 ks := by
        have n1 : decide (("least" : Str) = "most") = false := by decide
        rw [n1] at hb gb hbm ⊢
        obtain ⟨pm, hpm, e1⟩ := hin m List.mem_cons_self
        obtain ⟨pb, hpb, e2⟩ := hbm
        have h1 := hb m (.inr ⟨pm, hpm, e1.symm⟩)
        have h2 : ltV (bestL false p0.1 ks) m = false := by
          have hbu : bestL false p0.1 ks ∈ m :: us' := hu.mem_iff.mpr (List.mem_map.mpr ⟨pb, hpb, e2⟩)
          rcases List.mem_cons.mp hbu with z | z
          · rw [z]; exact ltV_irr gm
          · exact (List.pairwise_cons.mp hpw).1 _ z
        exact ltV_eq gm gb (by simpa using h1) h2
      refine find_for gm ks _ _ rfl rfl hg (hin m List.mem_cons_self) fun ρ => ?_
      simp only [backE, wipeE, wo_some, wo_none, wm_c, wm_var, wm_frz, wm_bin, wm_un, wm_tst, wm_tru, wm_truB, wm_chain, wm_and, wm_or, wm_not, wm_andV, wm_orV, wm_notV, wm_ifE, wm_nil, wm_cons, wm_app, wm_noP, wm_part, wm_sl, wm_pk, wm_io, wm_ix, wm_inB, wm_true, wm_seq, wm_rng1, wm_rng2,
  then_nx, then_ret, then_rof, then_brk, then_cnt, ws_next, ws_brk, ws_cnt, ws_seq, ws_if, ws_ret, ws_rof, ws_drop, ws_set, ws_own, ws_asg, wo_TN, wo_TNil, wo_TCons, wo_TTup, ws_ap, ws_setIx, ws_for, for_nil, turn_nx, turn_cnt, turn_brk, turn_ret, turn_rof, wm_lc, end_ret, end_nx, end_rof, end_io, ownOf_own, valOf_val, frz_val, frz_own, cOwn_own, peek_val, peek_own, by_val, by_own, canSet_none, canSet_val, canSet_own, lstOf_list,
  List.getElem?_cons_zero, List.getElem?_cons_succ, List.set_cons_zero, List.set_cons_succ, List.length_cons, List.length_nil, wo_ite, wo_bind, ↓reduceIte, and_true, true_and, and_self, Bool.false_eq_true, Bool.not_true, Bool.not_false, decide_eq_true_eq, decide_true, decide_false, oneInt_int, twoInts_int,
  add_ii, add_ll, add_tt, add_ss, sub_ii, mul_ii, mulS_ii, mod_ii, fdiv_ii, neg_i, le_ii, gt_ii, ge_ii, eqT_ii, eqT_ss, eqT_bb, eqT_nn, ltT_ii, ltT_ss, wo_eqD, wo_neD, wo_ltD, wo_inD, wo_ninD, is_n, isnt_n, is_bb, isnt_bb, isN, bOf_b, iOf_i, tru_b, tru_n, tru_i, tru_l, tru_t, seq_l, seq_t, tup_l, tup_t, lst_l, lst_t, len_l, len_t, int_i, int_b, abs_i, max_ii, min_ii, ix_li, ix_ti, cut_l, cut_t, flat_i, flat_b, flat_s, ix0, ix1, ix2, mkTup, mkLst,
  wm_reve, rev_l, rev_t, wm_opBL, repr_l, sort_l, sum_l, wm_enum, enum_l, enum_t, enumL_nil, wm_dic, wm_kvn, wm_kvc, seq_s, mulT_si, len_s, ord_c, str_i, ty_d, k_lb, k_li, k_ls, k_tb, k_ti, k_ts, k_db, k_di, k_ds, k_lt, k_tl,
  isi_1, ty_n, ty_b, ty_i, ty_s, ty_l, ty_t, k_nb, k_bb, k_ib, k_sb, k_ni, k_bi, k_ii, k_si, k_ns, k_bs, k_is, k_ss, k_ll, k_tt,
  Int.reduceNeg, Int.reducePow, Int.reduceLT, Int.reduceLE, Int.reduceAdd, Int.reduceSub, Int.reduceMul, Int.reduceToNat, Nat.reduceAdd, Nat.reduceLeDiff, Nat.reduceEqDiff, Int.reduceEq, reduceCtorEq]
      exact em
    · obtain ⟨us', m, rfl⟩ : ∃ us' m, us = us' ++ [m] := by
        rcases List.eq_nil_or_concat us with z | ⟨us', m, z⟩
        · rw [z] at hsl; simp at hsl; omega
        · exact ⟨us', m, by rw [z, List.concat_eq_append]⟩
      have e0 : ixA ((us' ++ [m]).map vo) (-1) = some (vo m) := by
        rw [List.map_append]
        exact ixA_last _ _
      have n2 : ¬ (("most" : Str) = "least") := by decide
      simp only [backE, wipeE, wo_some, wo_none, wm_c, wm_var, wm_frz, wm_bin, wm_un, wm_tst, wm_tru, wm_truB, wm_chain, wm_and, wm_or, wm_not, wm_andV, wm_orV, wm_notV, wm_ifE, wm_nil, wm_cons, wm_app, wm_noP, wm_part, wm_sl, wm_pk, wm_io, wm_ix, wm_inB, wm_true, wm_seq, wm_rng1, wm_rng2,
  then_nx, then_ret, then_rof, then_brk, then_cnt, ws_next, ws_brk, ws_cnt, ws_seq, ws_if, ws_ret, ws_rof, ws_drop, ws_set, ws_own, ws_asg, wo_TN, wo_TNil, wo_TCons, wo_TTup, ws_ap, ws_setIx, ws_for, for_nil, turn_nx, turn_cnt, turn_brk, turn_ret, turn_rof, wm_lc, end_ret, end_nx, end_rof, end_io, ownOf_own, valOf_val, frz_val, frz_own, cOwn_own, peek_val, peek_own, by_val, by_own, canSet_none, canSet_val, canSet_own, lstOf_list,
  List.getElem?_cons_zero, List.getElem?_cons_succ, List.set_cons_zero, List.set_cons_succ, List.length_cons, List.length_nil, wo_ite, wo_bind, ↓reduceIte, and_true, true_and, and_self, Bool.false_eq_true, Bool.not_true, Bool.not_false, decide_eq_true_eq, decide_true, decide_false, oneInt_int, twoInts_int,
  add_ii, add_ll, add_tt, add_ss, sub_ii, mul_ii, mulS_ii, mod_ii, fdiv_ii, neg_i, le_ii, gt_ii, ge_ii, eqT_ii, eqT_ss, eqT_bb, eqT_nn, ltT_ii, ltT_ss, wo_eqD, wo_neD, wo_ltD, wo_inD, wo_ninD, is_n, isnt_n, is_bb, isnt_bb, isN, bOf_b, iOf_i, tru_b, tru_n, tru_i, tru_l, tru_t, seq_l, seq_t, tup_l, tup_t, lst_l, lst_t, len_l, len_t, int_i, int_b, abs_i, max_ii, min_ii, ix_li, ix_ti, cut_l, cut_t, flat_i, flat_b, flat_s, ix0, ix1, ix2, mkTup, mkLst,
  wm_reve, rev_l, rev_t, wm_opBL, repr_l, sort_l, sum_l, wm_enum, enum_l, enum_t, enumL_nil, wm_dic, wm_kvn, wm_kvc, seq_s, mulT_si, len_s, ord_c, str_i, ty_d, k_lb, k_li, k_ls, k_tb, k_ti, k_ts, k_db, k_di, k_ds, k_lt, k_tl,
  isi_1, ty_n, ty_b, ty_i, ty_s, ty_l, ty_t, k_nb, k_bb, k_ib, k_sb, k_ni, k_bi, k_ii, k_si, k_ns, k_bs, k_is, k_ss, k_ll, k_tt,
  Int.reduceNeg, Int.reducePow, Int.reduceLT, Int.reduceLE, Int.reduceAdd, Int.reduceSub, Int.reduceMul, Int.reduceToNat, Nat.reduceAdd, Nat.reduceLeDiff, Nat.reduceEqDiff, Int.reduceEq, reduceCtorEq, e0, n2]
      have hmm : m ∈ us' ++ [m] := by simp
      have gm := gu m hmm
      have em : m = bestL (decide (("most" : Str) = "most")) p0.1 ks := by
        have n1 : decide (("most" : Str) = "most") = true := by decide
        rw [n1] at hb gb hbm ⊢
        obtain ⟨pm, hpm, e1⟩ := hin m hmm
        obtain ⟨pb, hpb, e2⟩ := hbm
        have h1 := hb m (.inr ⟨pm, hpm, e1.symm⟩)
        have h2 : ltV m (bestL true p0.1 ks) = false := by
          have hbu : bestL true p0.1 ks ∈ us' ++ [m] := hu.mem_iff.mpr (List.mem_map.mpr ⟨pb, hpb, e2⟩)
          rcases List.mem_append.mp hbu with z | z
          · exact (List.pairwise_append.mp hpw).2.2 _ z m (by simp)
          · rw [List.mem_singleton.mp z]; exact ltV_irr gm
        exact ltV_eq gm gb h2 (by simpa using h1)
      refine find_for gm ks _ _ rfl rfl hg (hin m hmm) fun ρ => ?_
      simp only [backE, wipeE, wo_some, wo_none, wm_c, wm_var, wm_frz, wm_bin, wm_un, wm_tst, wm_tru, wm_truB, wm_chain, wm_and, wm_or, wm_not, wm_andV, wm_orV, wm_notV, wm_ifE, wm_nil, wm_cons, wm_app, wm_noP, wm_part, wm_sl, wm_pk, wm_io, wm_ix, wm_inB, wm_true, wm_seq, wm_rng1, wm_rng2,
  then_nx, then_ret, then_rof, then_brk, then_cnt, ws_next, ws_brk, ws_cnt, ws_seq, ws_if, ws_ret, ws_rof, ws_drop, ws_set, ws_own, ws_asg, wo_TN, wo_TNil, wo_TCons, wo_TTup, ws_ap, ws_setIx, ws_for, for_nil, turn_nx, turn_cnt, turn_brk, turn_ret, turn_rof, wm_lc, end_ret, end_nx, end_rof, end_io, ownOf_own, valOf_val, frz_val, frz_own, cOwn_own, peek_val, peek_own, by_val, by_own, canSet_none, canSet_val, canSet_own, lstOf_list,
  List.getElem?_cons_zero, List.getElem?_cons_succ, List.set_cons_zero, List.set_cons_succ, List.length_cons, List.length_nil, wo_ite, wo_bind, ↓reduceIte, and_true, true_and, and_self, Bool.false_eq_true, Bool.not_true, Bool.not_false, decide_eq_true_eq, decide_true, decide_false, oneInt_int, twoInts_int,
  add_ii, add_ll, add_tt, add_ss, sub_ii, mul_ii, mulS_ii, mod_ii, fdiv_ii, neg_i, le_ii, gt_ii, ge_ii, eqT_ii, eqT_ss, eqT_bb, eqT_nn, ltT_ii, ltT_ss, wo_eqD, wo_neD, wo_ltD, wo_inD, wo_ninD, is_n, isnt_n, is_bb, isnt_bb, isN, bOf_b, iOf_i, tru_b, tru_n, tru_i, tru_l, tru_t, seq_l, seq_t, tup_l, tup_t, lst_l, lst_t, len_l, len_t, int_i, int_b, abs_i, max_ii, min_ii, ix_li, ix_ti, cut_l, cut_t, flat_i, flat_b, flat_s, ix0, ix1, ix2, mkTup, mkLst,
  wm_reve, rev_l, rev_t, wm_opBL, repr_l, sort_l, sum_l, wm_enum, enum_l, enum_t, enumL_nil, wm_dic, wm_kvn, wm_kvc, seq_s, mulT_si, len_s, ord_c, str_i, ty_d, k_lb, k_li, k_ls, k_tb, k_ti, k_ts, k_db, k_di, k_ds, k_lt, k_tl,
  isi_1, ty_n, ty_b, ty_i, ty_s, ty_l, ty_t, k_nb, k_bb, k_ib, k_sb, k_ni, k_bi, k_ii, k_si, k_ns, k_bs, k_is, k_ss, k_ll, k_tt,
  Int.reduceNeg, Int.reducePow, Int.reduceLT, Int.reduceLE, Int.reduceAdd, Int.reduceSub, Int.reduceMul, Int.reduceToNat, Nat.reduceAdd, Nat.reduceLeDiff, Nat.reduceEqDiff, Int.reduceEq, reduceCtorEq]
      exact em
def seven (w : Str) : Prop := w = "count" ∨ w = "sum" ∨ w = "least" ∨ w = "most" ∨ w = "mean" ∨ w = "first" ∨ w = "last"
def aggS (w : Str) (vs : List (D × Int)) : D :=
  if w = "first" then ((vs[0]?).map (·.1)).getD .none else if w = "last" then ((vs.getLast?).map (·.1)).getD .none else if w = "count" then bndD (cntL vs) else
    match (knownL vs)[0]? with
    | none => .none
    | some p0 => if w = "least" ∨ w = "most" then bestL (decide (w = "most")) p0.1 (knownL vs) else if w = "sum" then bndD (totL vs) else bndD (totL vs / cntL vs)
theorem pv_ok {ks : List (D × Int)} (h : gvw ks) : ∀ p ∈ ks, smD (pvD p) = true ∧ (pvD p).depth ≤ 1 ∧ nodes (pvD p) ≤ 4 := fun p hp => by
  obtain ⟨g, hV, h1, h2⟩ := h p hp
  refine ⟨?_, ?_, ?_⟩
  · simp only [pvD, smD, smL, sm_of g hV, Bool.true_and, Bool.and_true, decide_eq_true_eq]
    omega
  · simp only [pvD, PyData.depth, PyData.depthAll, depth_v g]
    decide
  · simp [pvD, nodes, nodesL, nodes_v g]
theorem shaped_pv {ks : List (D × Int)} (h : gvw ks) : SeqAt.shaped (.list (ks.map pvD)) = true := by
  have h1 := (smL_ok _ (smL_map fun p hp => (pv_ok h p hp).1)).1
  have h2 : PyData.depthAll (ks.map pvD) ≤ 1 := depthL_map fun p hp => (pv_ok h p hp).2.1
  unfold SeqAt.shaped
  rw [PyData.canLay0, PyData.depth, h1]
  simp
  omega
theorem repr_pv {ks : List (D × Int)} (h : gvw ks) (hl : ks.length ≤ 1000) : reprOk (.list (ks.map pvD)) = true := by
  refine repr_ok (by simpa [smD] using smL_map fun p hp => (pv_ok h p hp).1) ?_ ?_
  · have h2 : PyData.depthAll (ks.map pvD) ≤ 1 := depthL_map fun p hp => (pv_ok h p hp).2.1
    simp only [PyData.depth]
    omega
  · have h2 : nodesL (ks.map pvD) ≤ (4 + 1) * ks.length := nodesL_map fun p hp => (pv_ok h p hp).2.2
    simp only [nodes]
    omega
theorem eqT_pv_nil {ks : List (D × Int)} (h : gvw ks) : eqT (.list (ks.map pvD)) (.list []) = some ks.isEmpty := by
  have h0 := shaped_prs []
  show (if SeqAt.shaped (.list (ks.map pvD)) = true ∧ SeqAt.shaped (.list []) = true then some (PyData.eqv (.list (ks.map pvD)) (.list [])) else none) = _
  rw [if_pos ⟨shaped_pv h, h0⟩]
  cases ks <;> simp [PyData.eqv, PyData.eqvAll]
theorem nums_t (ks : List (D × Int)) : numsOf (ks.map fun p => .int (ivD p.1 * p.2)) = some (ks.map fun p => ivD p.1 * p.2) := by
  have := nums_map (ks.map fun p => ivD p.1 * p.2)
  rw [List.map_map] at this
  exact this
theorem log30 {i j : Int} (hi : -1000000000 ≤ i ∧ i ≤ 1000000000) (hj : 1 ≤ j ∧ j ≤ 1000000000) : i.natAbs.log2 + j.natAbs.log2 < 1000000 := log_ok 30 30 (by omega) (by omega) (by decide)
theorem sp_aggregate {w : Str} {vs : List (D × Int)} (hw : seven w) (hv : gvw vs) (hne : vs ≠ []) (hl : vs.length ≤ 100) (hi : w = "sum" ∨ w = "mean" → ∀ p ∈ knownL vs, ∃ i, p.1 = .int i) : f_aggregate [.str w, .list (vs.map pvD)] = some (aggS w vs) := by
  have gk := known_g hv
  have hkl : (knownL vs).length ≤ vs.length := List.length_filter_le _ _
  obtain ⟨c0, c1, c2⟩ := cnt_b gk
  have eI : ∀ {Q : List D × Dn.Env → Prop} {ρ : Dn.Env}, ρ.length = 7 → ρ[5]? = some none → ρ[6]? = some none → Q ((knownL vs).map pvD, ρ) → Wo (lcD [5, 6] (gTTup 2 (gTCons (gTN 5) (gTCons (gTN 6) gTNil))) (gTst (gBin isntD (gVar 5) (gC .none))) (gApp mkTup (gCons (gVar 5) (gCons (gVar 6) gNil))) (vs.map pvD) ρ) Q := by
    intro Q ρ h7 h5 h6 q
    refine lc_filterA pvD pvD (fun p => !isN p.1) vs (fun p hp => ?_) q
    unfold pvD
    match ρ, h7 with
    | [a0, a1, a2, a3, a4, a5, a6], _ =>
      simp only [List.getElem?_cons_zero, List.getElem?_cons_succ, Option.some.injEq] at h5 h6
      subst h5 h6
      simp only [backE, wipeE, wo_some, wo_none, wm_c, wm_var, wm_frz, wm_bin, wm_un, wm_tst, wm_tru, wm_truB, wm_chain, wm_and, wm_or, wm_not, wm_andV, wm_orV, wm_notV, wm_ifE, wm_nil, wm_cons, wm_app, wm_noP, wm_part, wm_sl, wm_pk, wm_io, wm_ix, wm_inB, wm_true, wm_seq, wm_rng1, wm_rng2,
  then_nx, then_ret, then_rof, then_brk, then_cnt, ws_next, ws_brk, ws_cnt, ws_seq, ws_if, ws_ret, ws_rof, ws_drop, ws_set, ws_own, ws_asg, wo_TN, wo_TNil, wo_TCons, wo_TTup, ws_ap, ws_setIx, ws_for, for_nil, turn_nx, turn_cnt, turn_brk, turn_ret, turn_rof, wm_lc, end_ret, end_nx, end_rof, end_io, ownOf_own, valOf_val, frz_val, frz_own, cOwn_own, peek_val, peek_own, by_val, by_own, canSet_none, canSet_val, canSet_own, lstOf_list,
  List.getElem?_cons_zero, List.getElem?_cons_succ, List.set_cons_zero, List.set_cons_succ, List.length_cons, List.length_nil, wo_ite, wo_bind, ↓reduceIte, and_true, true_and, and_self, Bool.false_eq_true, Bool.not_true, Bool.not_false, decide_eq_true_eq, decide_true, decide_false, oneInt_int, twoInts_int,
  add_ii, add_ll, add_tt, add_ss, sub_ii, mul_ii, mulS_ii, mod_ii, fdiv_ii, neg_i, le_ii, gt_ii, ge_ii, eqT_ii, eqT_ss, eqT_bb, eqT_nn, ltT_ii, ltT_ss, wo_eqD, wo_neD, wo_ltD, wo_inD, wo_ninD, is_n, isnt_n, is_bb, isnt_bb, isN, bOf_b, iOf_i, tru_b, tru_n, tru_i, tru_l, tru_t, seq_l, seq_t, tup_l, tup_t, lst_l, lst_t, len_l, len_t, int_i, int_b, abs_i, max_ii, min_ii, ix_li, ix_ti, cut_l, cut_t, flat_i, flat_b, flat_s, ix0, ix1, ix2, mkTup, mkLst,
  wm_reve, rev_l, rev_t, wm_opBL, repr_l, sort_l, sum_l, wm_enum, enum_l, enum_t, enumL_nil, wm_dic, wm_kvn, wm_kvc, seq_s, mulT_si, len_s, ord_c, str_i, ty_d, k_lb, k_li, k_ls, k_tb, k_ti, k_ts, k_db, k_di, k_ds, k_lt, k_tl,
  isi_1, ty_n, ty_b, ty_i, ty_s, ty_l, ty_t, k_nb, k_bb, k_ib, k_sb, k_ni, k_bi, k_ii, k_si, k_ns, k_bs, k_is, k_ss, k_ll, k_tt,
  Int.reduceNeg, Int.reducePow, Int.reduceLT, Int.reduceLE, Int.reduceAdd, Int.reduceSub, Int.reduceMul, Int.reduceToNat, Nat.reduceAdd, Nat.reduceLeDiff, Nat.reduceEqDiff, Int.reduceEq, reduceCtorEq]
      exact ⟨fun _ => trivial, fun _ => trivial⟩
  rw [← wo_eq]
  unfold f_aggregate
  rw [wo_runV]
  show Ws g_aggregate [some (.val (.str w)), some (.val (.list (vs.map pvD))), none, none, none, none, none] _
  unfold g_aggregate
  by_cases hf : w = "first"
  · subst hf
    obtain ⟨p, vs', rfl⟩ : ∃ p vs', vs = p :: vs' := by
      cases vs with
      | nil => exact absurd rfl hne
      | cons p vs' => exact ⟨p, vs', rfl⟩
    have e0 : ixA ((p :: vs').map pvD) 0 = some (.tuple [p.1, .int p.2]) := rfl
    simp only [backE, wipeE, wo_some, wo_none, wm_c, wm_var, wm_frz, wm_bin, wm_un, wm_tst, wm_tru, wm_truB, wm_chain, wm_and, wm_or, wm_not, wm_andV, wm_orV, wm_notV, wm_ifE, wm_nil, wm_cons, wm_app, wm_noP, wm_part, wm_sl, wm_pk, wm_io, wm_ix, wm_inB, wm_true, wm_seq, wm_rng1, wm_rng2,
  then_nx, then_ret, then_rof, then_brk, then_cnt, ws_next, ws_brk, ws_cnt, ws_seq, ws_if, ws_ret, ws_rof, ws_drop, ws_set, ws_own, ws_asg, wo_TN, wo_TNil, wo_TCons, wo_TTup, ws_ap, ws_setIx, ws_for, for_nil, turn_nx, turn_cnt, turn_brk, turn_ret, turn_rof, wm_lc, end_ret, end_nx, end_rof, end_io, ownOf_own, valOf_val, frz_val, frz_own, cOwn_own, peek_val, peek_own, by_val, by_own, canSet_none, canSet_val, canSet_own, lstOf_list,
  List.getElem?_cons_zero, List.getElem?_cons_succ, List.set_cons_zero, List.set_cons_succ, List.length_cons, List.length_nil, wo_ite, wo_bind, ↓reduceIte, and_true, true_and, and_self, Bool.false_eq_true, Bool.not_true, Bool.not_false, decide_eq_true_eq, decide_true, decide_false, oneInt_int, twoInts_int,
  add_ii, add_ll, add_tt, add_ss, sub_ii, mul_ii, mulS_ii, mod_ii, fdiv_ii, neg_i, le_ii, gt_ii, ge_ii, eqT_ii, eqT_ss, eqT_bb, eqT_nn, ltT_ii, ltT_ss, wo_eqD, wo_neD, wo_ltD, wo_inD, wo_ninD, is_n, isnt_n, is_bb, isnt_bb, isN, bOf_b, iOf_i, tru_b, tru_n, tru_i, tru_l, tru_t, seq_l, seq_t, tup_l, tup_t, lst_l, lst_t, len_l, len_t, int_i, int_b, abs_i, max_ii, min_ii, ix_li, ix_ti, cut_l, cut_t, flat_i, flat_b, flat_s, ix0, ix1, ix2, mkTup, mkLst,
  wm_reve, rev_l, rev_t, wm_opBL, repr_l, sort_l, sum_l, wm_enum, enum_l, enum_t, enumL_nil, wm_dic, wm_kvn, wm_kvc, seq_s, mulT_si, len_s, ord_c, str_i, ty_d, k_lb, k_li, k_ls, k_tb, k_ti, k_ts, k_db, k_di, k_ds, k_lt, k_tl,
  isi_1, ty_n, ty_b, ty_i, ty_s, ty_l, ty_t, k_nb, k_bb, k_ib, k_sb, k_ni, k_bi, k_ii, k_si, k_ns, k_bs, k_is, k_ss, k_ll, k_tt,
  Int.reduceNeg, Int.reducePow, Int.reduceLT, Int.reduceLE, Int.reduceAdd, Int.reduceSub, Int.reduceMul, Int.reduceToNat, Nat.reduceAdd, Nat.reduceLeDiff, Nat.reduceEqDiff, Int.reduceEq, reduceCtorEq, e0]
    all_goals rfl
  by_cases hla : w = "last"
  · subst hla
    obtain ⟨vs', p, rfl⟩ : ∃ vs' p, vs = vs' ++ [p] := by
      rcases List.eq_nil_or_concat vs with z | ⟨us', m, z⟩
      · exact absurd z hne
      · exact ⟨us', m, by rw [z, List.concat_eq_append]⟩
    have e0 : ixA ((vs' ++ [p]).map pvD) (-1) = some (.tuple [p.1, .int p.2]) := by
      rw [List.map_append]
      exact ixA_last _ _
    have n1 : ¬ (("last" : Str) = "first") := by decide
    simp only [backE, wipeE, wo_some, wo_none, wm_c, wm_var, wm_frz, wm_bin, wm_un, wm_tst, wm_tru, wm_truB, wm_chain, wm_and, wm_or, wm_not, wm_andV, wm_orV, wm_notV, wm_ifE, wm_nil, wm_cons, wm_app, wm_noP, wm_part, wm_sl, wm_pk, wm_io, wm_ix, wm_inB, wm_true, wm_seq, wm_rng1, wm_rng2,
  then_nx, then_ret, then_rof, then_brk, then_cnt, ws_next, ws_brk, ws_cnt, ws_seq, ws_if, ws_ret, ws_rof, ws_drop, ws_set, ws_own, ws_asg, wo_TN, wo_TNil, wo_TCons, wo_TTup, ws_ap, ws_setIx, ws_for, for_nil, turn_nx, turn_cnt, turn_brk, turn_ret, turn_rof, wm_lc, end_ret, end_nx, end_rof, end_io, ownOf_own, valOf_val, frz_val, frz_own, cOwn_own, peek_val, peek_own, by_val, by_own, canSet_none, canSet_val, canSet_own, lstOf_list,
  List.getElem?_cons_zero, List.getElem?_cons_succ, List.set_cons_zero, List.set_cons_succ, List.length_cons, List.length_nil, wo_ite, wo_bind, ↓reduceIte, and_true, true_and, and_self, Bool.false_eq_true, Bool.not_true, Bool.not_false, decide_eq_true_eq, decide_true, decide_false, oneInt_int, twoInts_int,
  add_ii, add_ll, add_tt, add_ss, sub_ii, mul_ii, mulS_ii, mod_ii, fdiv_ii, neg_i, le_ii, gt_ii, ge_ii, eqT_ii, eqT_ss, eqT_bb, eqT_nn, ltT_ii, ltT_ss, wo_eqD, wo_neD, wo_ltD, wo_inD, wo_ninD, is_n, isnt_n, is_bb, isnt_bb, isN, bOf_b, iOf_i, tru_b, tru_n, tru_i, tru_l, tru_t, seq_l, seq_t, tup_l, tup_t, lst_l, lst_t, len_l, len_t, int_i, int_b, abs_i, max_ii, min_ii, ix_li, ix_ti, cut_l, cut_t, flat_i, flat_b, flat_s, ix0, ix1, ix2, mkTup, mkLst,
  wm_reve, rev_l, rev_t, wm_opBL, repr_l, sort_l, sum_l, wm_enum, enum_l, enum_t, enumL_nil, wm_dic, wm_kvn, wm_kvc, seq_s, mulT_si, len_s, ord_c, str_i, ty_d, k_lb, k_li, k_ls, k_tb, k_ti, k_ts, k_db, k_di, k_ds, k_lt, k_tl,
  isi_1, ty_n, ty_b, ty_i, ty_s, ty_l, ty_t, k_nb, k_bb, k_ib, k_sb, k_ni, k_bi, k_ii, k_si, k_ns, k_bs, k_is, k_ss, k_ll, k_tt,
  Int.reduceNeg, Int.reducePow, Int.reduceLT, Int.reduceLE, Int.reduceAdd, Int.reduceSub, Int.reduceMul, Int.reduceToNat, Nat.reduceAdd, Nat.reduceLeDiff, Nat.reduceEqDiff, Int.reduceEq, reduceCtorEq, e0, n1]
    simp [aggS, n1]
  simp only [backE, wipeE, wo_some, wo_none, wm_c, wm_var, wm_frz, wm_bin, wm_un, wm_tst, wm_tru, wm_truB, wm_chain, wm_and, wm_or, wm_not, wm_andV, wm_orV, wm_notV, wm_ifE, wm_nil, wm_cons, wm_app, wm_noP, wm_part, wm_sl, wm_pk, wm_io, wm_ix, wm_inB, wm_true, wm_seq, wm_rng1, wm_rng2,
  then_nx, then_ret, then_rof, then_brk, then_cnt, ws_next, ws_brk, ws_cnt, ws_seq, ws_if, ws_ret, ws_rof, ws_drop, ws_set, ws_own, ws_asg, wo_TN, wo_TNil, wo_TCons, wo_TTup, ws_ap, ws_setIx, ws_for, for_nil, turn_nx, turn_cnt, turn_brk, turn_ret, turn_rof, wm_lc, end_ret, end_nx, end_rof, end_io, ownOf_own, valOf_val, frz_val, frz_own, cOwn_own, peek_val, peek_own, by_val, by_own, canSet_none, canSet_val, canSet_own, lstOf_list,
  List.getElem?_cons_zero, List.getElem?_cons_succ, List.set_cons_zero, List.set_cons_succ, List.length_cons, List.length_nil, wo_ite, wo_bind, ↓reduceIte, and_true, true_and, and_self, Bool.false_eq_true, Bool.not_true, Bool.not_false, decide_eq_true_eq, decide_true, decide_false, oneInt_int, twoInts_int,
  add_ii, add_ll, add_tt, add_ss, sub_ii, mul_ii, mulS_ii, mod_ii, fdiv_ii, neg_i, le_ii, gt_ii, ge_ii, eqT_ii, eqT_ss, eqT_bb, eqT_nn, ltT_ii, ltT_ss, wo_eqD, wo_neD, wo_ltD, wo_inD, wo_ninD, is_n, isnt_n, is_bb, isnt_bb, isN, bOf_b, iOf_i, tru_b, tru_n, tru_i, tru_l, tru_t, seq_l, seq_t, tup_l, tup_t, lst_l, lst_t, len_l, len_t, int_i, int_b, abs_i, max_ii, min_ii, ix_li, ix_ti, cut_l, cut_t, flat_i, flat_b, flat_s, ix0, ix1, ix2, mkTup, mkLst,
  wm_reve, rev_l, rev_t, wm_opBL, repr_l, sort_l, sum_l, wm_enum, enum_l, enum_t, enumL_nil, wm_dic, wm_kvn, wm_kvc, seq_s, mulT_si, len_s, ord_c, str_i, ty_d, k_lb, k_li, k_ls, k_tb, k_ti, k_ts, k_db, k_di, k_ds, k_lt, k_tl,
  isi_1, ty_n, ty_b, ty_i, ty_s, ty_l, ty_t, k_nb, k_bb, k_ib, k_sb, k_ni, k_bi, k_ii, k_si, k_ns, k_bs, k_is, k_ss, k_ll, k_tt,
  Int.reduceNeg, Int.reducePow, Int.reduceLT, Int.reduceLE, Int.reduceAdd, Int.reduceSub, Int.reduceMul, Int.reduceToNat, Nat.reduceAdd, Nat.reduceLeDiff, Nat.reduceEqDiff, Int.reduceEq, reduceCtorEq, hf, hla, List.length_map]
  refine ⟨⟨by omega, rfl⟩, ?_⟩
  refine eI rfl rfl rfl ?_
  simp only [backE, wipeE, wo_some, wo_none, wm_c, wm_var, wm_frz, wm_bin, wm_un, wm_tst, wm_tru, wm_truB, wm_chain, wm_and, wm_or, wm_not, wm_andV, wm_orV, wm_notV, wm_ifE, wm_nil, wm_cons, wm_app, wm_noP, wm_part, wm_sl, wm_pk, wm_io, wm_ix, wm_inB, wm_true, wm_seq, wm_rng1, wm_rng2,
  then_nx, then_ret, then_rof, then_brk, then_cnt, ws_next, ws_brk, ws_cnt, ws_seq, ws_if, ws_ret, ws_rof, ws_drop, ws_set, ws_own, ws_asg, wo_TN, wo_TNil, wo_TCons, wo_TTup, ws_ap, ws_setIx, ws_for, for_nil, turn_nx, turn_cnt, turn_brk, turn_ret, turn_rof, wm_lc, end_ret, end_nx, end_rof, end_io, ownOf_own, valOf_val, frz_val, frz_own, cOwn_own, peek_val, peek_own, by_val, by_own, canSet_none, canSet_val, canSet_own, lstOf_list,
  List.getElem?_cons_zero, List.getElem?_cons_succ, List.set_cons_zero, List.set_cons_succ, List.length_cons, List.length_nil, wo_ite, wo_bind, ↓reduceIte, and_true, true_and, and_self, Bool.false_eq_true, Bool.not_true, Bool.not_false, decide_eq_true_eq, decide_true, decide_false, oneInt_int, twoInts_int,
  add_ii, add_ll, add_tt, add_ss, sub_ii, mul_ii, mulS_ii, mod_ii, fdiv_ii, neg_i, le_ii, gt_ii, ge_ii, eqT_ii, eqT_ss, eqT_bb, eqT_nn, ltT_ii, ltT_ss, wo_eqD, wo_neD, wo_ltD, wo_inD, wo_ninD, is_n, isnt_n, is_bb, isnt_bb, isN, bOf_b, iOf_i, tru_b, tru_n, tru_i, tru_l, tru_t, seq_l, seq_t, tup_l, tup_t, lst_l, lst_t, len_l, len_t, int_i, int_b, abs_i, max_ii, min_ii, ix_li, ix_ti, cut_l, cut_t, flat_i, flat_b, flat_s, ix0, ix1, ix2, mkTup, mkLst,
  wm_reve, rev_l, rev_t, wm_opBL, repr_l, sort_l, sum_l, wm_enum, enum_l, enum_t, enumL_nil, wm_dic, wm_kvn, wm_kvc, seq_s, mulT_si, len_s, ord_c, str_i, ty_d, k_lb, k_li, k_ls, k_tb, k_ti, k_ts, k_db, k_di, k_ds, k_lt, k_tl,
  isi_1, ty_n, ty_b, ty_i, ty_s, ty_l, ty_t, k_nb, k_bb, k_ib, k_sb, k_ni, k_bi, k_ii, k_si, k_ns, k_bs, k_is, k_ss, k_ll, k_tt,
  Int.reduceNeg, Int.reducePow, Int.reduceLT, Int.reduceLE, Int.reduceAdd, Int.reduceSub, Int.reduceMul, Int.reduceToNat, Nat.reduceAdd, Nat.reduceLeDiff, Nat.reduceEqDiff, Int.reduceEq, reduceCtorEq, List.length_map]
  refine ⟨⟨by omega, rfl⟩, ?_⟩
  refine lc_mapA pvD (fun p => .int p.2) _ (fun p hp => ?_) ?_
  · unfold pvD
    simp only [backE, wipeE, wo_some, wo_none, wm_c, wm_var, wm_frz, wm_bin, wm_un, wm_tst, wm_tru, wm_truB, wm_chain, wm_and, wm_or, wm_not, wm_andV, wm_orV, wm_notV, wm_ifE, wm_nil, wm_cons, wm_app, wm_noP, wm_part, wm_sl, wm_pk, wm_io, wm_ix, wm_inB, wm_true, wm_seq, wm_rng1, wm_rng2,
  then_nx, then_ret, then_rof, then_brk, then_cnt, ws_next, ws_brk, ws_cnt, ws_seq, ws_if, ws_ret, ws_rof, ws_drop, ws_set, ws_own, ws_asg, wo_TN, wo_TNil, wo_TCons, wo_TTup, ws_ap, ws_setIx, ws_for, for_nil, turn_nx, turn_cnt, turn_brk, turn_ret, turn_rof, wm_lc, end_ret, end_nx, end_rof, end_io, ownOf_own, valOf_val, frz_val, frz_own, cOwn_own, peek_val, peek_own, by_val, by_own, canSet_none, canSet_val, canSet_own, lstOf_list,
  List.getElem?_cons_zero, List.getElem?_cons_succ, List.set_cons_zero, List.set_cons_succ, List.length_cons, List.length_nil, wo_ite, wo_bind, ↓reduceIte, and_true, true_and, and_self, Bool.false_eq_true, Bool.not_true, Bool.not_false, decide_eq_true_eq, decide_true, decide_false, oneInt_int, twoInts_int,
  add_ii, add_ll, add_tt, add_ss, sub_ii, mul_ii, mulS_ii, mod_ii, fdiv_ii, neg_i, le_ii, gt_ii, ge_ii, eqT_ii, eqT_ss, eqT_bb, eqT_nn, ltT_ii, ltT_ss, wo_eqD, wo_neD, wo_ltD, wo_inD, wo_ninD, is_n, isnt_n, is_bb, isnt_bb, isN, bOf_b, iOf_i, tru_b, tru_n, tru_i, tru_l, tru_t, seq_l, seq_t, tup_l, tup_t, lst_l, lst_t, len_l, len_t, int_i, int_b, abs_i, max_ii, min_ii, ix_li, ix_ti, cut_l, cut_t, flat_i, flat_b, flat_s, ix0, ix1, ix2, mkTup, mkLst,
  wm_reve, rev_l, rev_t, wm_opBL, repr_l, sort_l, sum_l, wm_enum, enum_l, enum_t, enumL_nil, wm_dic, wm_kvn, wm_kvc, seq_s, mulT_si, len_s, ord_c, str_i, ty_d, k_lb, k_li, k_ls, k_tb, k_ti, k_ts, k_db, k_di, k_ds, k_lt, k_tl,
  isi_1, ty_n, ty_b, ty_i, ty_s, ty_l, ty_t, k_nb, k_bb, k_ib, k_sb, k_ni, k_bi, k_ii, k_si, k_ns, k_bs, k_is, k_ss, k_ll, k_tt,
  Int.reduceNeg, Int.reducePow, Int.reduceLT, Int.reduceLE, Int.reduceAdd, Int.reduceSub, Int.reduceMul, Int.reduceToNat, Nat.reduceAdd, Nat.reduceLeDiff, Nat.reduceEqDiff, Int.reduceEq, reduceCtorEq]
    all_goals rfl
  have eN := nums_w (knownL vs)
  simp only [backE, wipeE, wo_some, wo_none, wm_c, wm_var, wm_frz, wm_bin, wm_un, wm_tst, wm_tru, wm_truB, wm_chain, wm_and, wm_or, wm_not, wm_andV, wm_orV, wm_notV, wm_ifE, wm_nil, wm_cons, wm_app, wm_noP, wm_part, wm_sl, wm_pk, wm_io, wm_ix, wm_inB, wm_true, wm_seq, wm_rng1, wm_rng2,
  then_nx, then_ret, then_rof, then_brk, then_cnt, ws_next, ws_brk, ws_cnt, ws_seq, ws_if, ws_ret, ws_rof, ws_drop, ws_set, ws_own, ws_asg, wo_TN, wo_TNil, wo_TCons, wo_TTup, ws_ap, ws_setIx, ws_for, for_nil, turn_nx, turn_cnt, turn_brk, turn_ret, turn_rof, wm_lc, end_ret, end_nx, end_rof, end_io, ownOf_own, valOf_val, frz_val, frz_own, cOwn_own, peek_val, peek_own, by_val, by_own, canSet_none, canSet_val, canSet_own, lstOf_list,
  List.getElem?_cons_zero, List.getElem?_cons_succ, List.set_cons_zero, List.set_cons_succ, List.length_cons, List.length_nil, wo_ite, wo_bind, ↓reduceIte, and_true, true_and, and_self, Bool.false_eq_true, Bool.not_true, Bool.not_false, decide_eq_true_eq, decide_true, decide_false, oneInt_int, twoInts_int,
  add_ii, add_ll, add_tt, add_ss, sub_ii, mul_ii, mulS_ii, mod_ii, fdiv_ii, neg_i, le_ii, gt_ii, ge_ii, eqT_ii, eqT_ss, eqT_bb, eqT_nn, ltT_ii, ltT_ss, wo_eqD, wo_neD, wo_ltD, wo_inD, wo_ninD, is_n, isnt_n, is_bb, isnt_bb, isN, bOf_b, iOf_i, tru_b, tru_n, tru_i, tru_l, tru_t, seq_l, seq_t, tup_l, tup_t, lst_l, lst_t, len_l, len_t, int_i, int_b, abs_i, max_ii, min_ii, ix_li, ix_ti, cut_l, cut_t, flat_i, flat_b, flat_s, ix0, ix1, ix2, mkTup, mkLst,
  wm_reve, rev_l, rev_t, wm_opBL, repr_l, sort_l, sum_l, wm_enum, enum_l, enum_t, enumL_nil, wm_dic, wm_kvn, wm_kvc, seq_s, mulT_si, len_s, ord_c, str_i, ty_d, k_lb, k_li, k_ls, k_tb, k_ti, k_ts, k_db, k_di, k_ds, k_lt, k_tl,
  isi_1, ty_n, ty_b, ty_i, ty_s, ty_l, ty_t, k_nb, k_bb, k_ib, k_sb, k_ni, k_bi, k_ii, k_si, k_ns, k_bs, k_is, k_ss, k_ll, k_tt,
  Int.reduceNeg, Int.reducePow, Int.reduceLT, Int.reduceLE, Int.reduceAdd, Int.reduceSub, Int.reduceMul, Int.reduceToNat, Nat.reduceAdd, Nat.reduceLeDiff, Nat.reduceEqDiff, Int.reduceEq, reduceCtorEq, eN]
  by_cases hc : w = "count"
  · rw [if_pos hc]
    simp only [backE, wipeE, wo_some, wo_none, wm_c, wm_var, wm_frz, wm_bin, wm_un, wm_tst, wm_tru, wm_truB, wm_chain, wm_and, wm_or, wm_not, wm_andV, wm_orV, wm_notV, wm_ifE, wm_nil, wm_cons, wm_app, wm_noP, wm_part, wm_sl, wm_pk, wm_io, wm_ix, wm_inB, wm_true, wm_seq, wm_rng1, wm_rng2,
  then_nx, then_ret, then_rof, then_brk, then_cnt, ws_next, ws_brk, ws_cnt, ws_seq, ws_if, ws_ret, ws_rof, ws_drop, ws_set, ws_own, ws_asg, wo_TN, wo_TNil, wo_TCons, wo_TTup, ws_ap, ws_setIx, ws_for, for_nil, turn_nx, turn_cnt, turn_brk, turn_ret, turn_rof, wm_lc, end_ret, end_nx, end_rof, end_io, ownOf_own, valOf_val, frz_val, frz_own, cOwn_own, peek_val, peek_own, by_val, by_own, canSet_none, canSet_val, canSet_own, lstOf_list,
  List.getElem?_cons_zero, List.getElem?_cons_succ, List.set_cons_zero, List.set_cons_succ, List.length_cons, List.length_nil, wo_ite, wo_bind, ↓reduceIte, and_true, true_and, and_self, Bool.false_eq_true, Bool.not_true, Bool.not_false, decide_eq_true_eq, decide_true, decide_false, oneInt_int, twoInts_int,
  add_ii, add_ll, add_tt, add_ss, sub_ii, mul_ii, mulS_ii, mod_ii, fdiv_ii, neg_i, le_ii, gt_ii, ge_ii, eqT_ii, eqT_ss, eqT_bb, eqT_nn, ltT_ii, ltT_ss, wo_eqD, wo_neD, wo_ltD, wo_inD, wo_ninD, is_n, isnt_n, is_bb, isnt_bb, isN, bOf_b, iOf_i, tru_b, tru_n, tru_i, tru_l, tru_t, seq_l, seq_t, tup_l, tup_t, lst_l, lst_t, len_l, len_t, int_i, int_b, abs_i, max_ii, min_ii, ix_li, ix_ti, cut_l, cut_t, flat_i, flat_b, flat_s, ix0, ix1, ix2, mkTup, mkLst,
  wm_reve, rev_l, rev_t, wm_opBL, repr_l, sort_l, sum_l, wm_enum, enum_l, enum_t, enumL_nil, wm_dic, wm_kvn, wm_kvc, seq_s, mulT_si, len_s, ord_c, str_i, ty_d, k_lb, k_li, k_ls, k_tb, k_ti, k_ts, k_db, k_di, k_ds, k_lt, k_tl,
  isi_1, ty_n, ty_b, ty_i, ty_s, ty_l, ty_t, k_nb, k_bb, k_ib, k_sb, k_ni, k_bi, k_ii, k_si, k_ns, k_bs, k_is, k_ss, k_ll, k_tt,
  Int.reduceNeg, Int.reducePow, Int.reduceLT, Int.reduceLE, Int.reduceAdd, Int.reduceSub, Int.reduceMul, Int.reduceToNat, Nat.reduceAdd, Nat.reduceLeDiff, Nat.reduceEqDiff, Int.reduceEq, reduceCtorEq, sp_bounded]
    simp only [aggS, hf, hla, hc, ↓reduceIte]
    subst hc
    simp only [hf, hla, ↓reduceIte]
    rfl
  rw [if_neg hc]
  have hag : aggS w vs = match (knownL vs)[0]? with
    | none => .none
    | some p0 => if w = "least" ∨ w = "most" then bestL (decide (w = "most")) p0.1 (knownL vs) else if w = "sum" then bndD (totL vs) else bndD (totL vs / cntL vs) := by
    unfold aggS
    rw [if_neg hf, if_neg hla, if_neg hc]
  rw [hag]
  simp only [backE, wipeE, wo_some, wo_none, wm_c, wm_var, wm_frz, wm_bin, wm_un, wm_tst, wm_tru, wm_truB, wm_chain, wm_and, wm_or, wm_not, wm_andV, wm_orV, wm_notV, wm_ifE, wm_nil, wm_cons, wm_app, wm_noP, wm_part, wm_sl, wm_pk, wm_io, wm_ix, wm_inB, wm_true, wm_seq, wm_rng1, wm_rng2,
  then_nx, then_ret, then_rof, then_brk, then_cnt, ws_next, ws_brk, ws_cnt, ws_seq, ws_if, ws_ret, ws_rof, ws_drop, ws_set, ws_own, ws_asg, wo_TN, wo_TNil, wo_TCons, wo_TTup, ws_ap, ws_setIx, ws_for, for_nil, turn_nx, turn_cnt, turn_brk, turn_ret, turn_rof, wm_lc, end_ret, end_nx, end_rof, end_io, ownOf_own, valOf_val, frz_val, frz_own, cOwn_own, peek_val, peek_own, by_val, by_own, canSet_none, canSet_val, canSet_own, lstOf_list,
  List.getElem?_cons_zero, List.getElem?_cons_succ, List.set_cons_zero, List.set_cons_succ, List.length_cons, List.length_nil, wo_ite, wo_bind, ↓reduceIte, and_true, true_and, and_self, Bool.false_eq_true, Bool.not_true, Bool.not_false, decide_eq_true_eq, decide_true, decide_false, oneInt_int, twoInts_int,
  add_ii, add_ll, add_tt, add_ss, sub_ii, mul_ii, mulS_ii, mod_ii, fdiv_ii, neg_i, le_ii, gt_ii, ge_ii, eqT_ii, eqT_ss, eqT_bb, eqT_nn, ltT_ii, ltT_ss, wo_eqD, wo_neD, wo_ltD, wo_inD, wo_ninD, is_n, isnt_n, is_bb, isnt_bb, isN, bOf_b, iOf_i, tru_b, tru_n, tru_i, tru_l, tru_t, seq_l, seq_t, tup_l, tup_t, lst_l, lst_t, len_l, len_t, int_i, int_b, abs_i, max_ii, min_ii, ix_li, ix_ti, cut_l, cut_t, flat_i, flat_b, flat_s, ix0, ix1, ix2, mkTup, mkLst,
  wm_reve, rev_l, rev_t, wm_opBL, repr_l, sort_l, sum_l, wm_enum, enum_l, enum_t, enumL_nil, wm_dic, wm_kvn, wm_kvc, seq_s, mulT_si, len_s, ord_c, str_i, ty_d, k_lb, k_li, k_ls, k_tb, k_ti, k_ts, k_db, k_di, k_ds, k_lt, k_tl,
  isi_1, ty_n, ty_b, ty_i, ty_s, ty_l, ty_t, k_nb, k_bb, k_ib, k_sb, k_ni, k_bi, k_ii, k_si, k_ns, k_bs, k_is, k_ss, k_ll, k_tt,
  Int.reduceNeg, Int.reducePow, Int.reduceLT, Int.reduceLE, Int.reduceAdd, Int.reduceSub, Int.reduceMul, Int.reduceToNat, Nat.reduceAdd, Nat.reduceLeDiff, Nat.reduceEqDiff, Int.reduceEq, reduceCtorEq, eqT_pv_nil gk]
  cases hk : knownL vs with
  | nil => rfl
  | cons p0 r =>
    have hkk := hk
    rw [← hk]
    have hem : (knownL vs).isEmpty = false := by rw [hk]; rfl
    have h0 : (knownL vs)[0]? = some p0 := by rw [hk]; rfl
    have hc1 := c2 (by rw [hk]; exact List.cons_ne_nil _ _)
    rw [hem, if_neg (by decide), h0]
    simp only
    by_cases hle : w = "least"
    · rw [if_pos hle, if_pos (.inl hle)]
      have := sp_extreme (w := w) (.inl hle) h0 (fun p hp => (gk p hp).1) (by omega)
      simp only [backE, wipeE, wo_some, wo_none, wm_c, wm_var, wm_frz, wm_bin, wm_un, wm_tst, wm_tru, wm_truB, wm_chain, wm_and, wm_or, wm_not, wm_andV, wm_orV, wm_notV, wm_ifE, wm_nil, wm_cons, wm_app, wm_noP, wm_part, wm_sl, wm_pk, wm_io, wm_ix, wm_inB, wm_true, wm_seq, wm_rng1, wm_rng2,
  then_nx, then_ret, then_rof, then_brk, then_cnt, ws_next, ws_brk, ws_cnt, ws_seq, ws_if, ws_ret, ws_rof, ws_drop, ws_set, ws_own, ws_asg, wo_TN, wo_TNil, wo_TCons, wo_TTup, ws_ap, ws_setIx, ws_for, for_nil, turn_nx, turn_cnt, turn_brk, turn_ret, turn_rof, wm_lc, end_ret, end_nx, end_rof, end_io, ownOf_own, valOf_val, frz_val, frz_own, cOwn_own, peek_val, peek_own, by_val, by_own, canSet_none, canSet_val, canSet_own, lstOf_list,
  List.getElem?_cons_zero, List.getElem?_cons_succ, List.set_cons_zero, List.set_cons_succ, List.length_cons, List.length_nil, wo_ite, wo_bind, ↓reduceIte, and_true, true_and, and_self, Bool.false_eq_true, Bool.not_true, Bool.not_false, decide_eq_true_eq, decide_true, decide_false, oneInt_int, twoInts_int,
  add_ii, add_ll, add_tt, add_ss, sub_ii, mul_ii, mulS_ii, mod_ii, fdiv_ii, neg_i, le_ii, gt_ii, ge_ii, eqT_ii, eqT_ss, eqT_bb, eqT_nn, ltT_ii, ltT_ss, wo_eqD, wo_neD, wo_ltD, wo_inD, wo_ninD, is_n, isnt_n, is_bb, isnt_bb, isN, bOf_b, iOf_i, tru_b, tru_n, tru_i, tru_l, tru_t, seq_l, seq_t, tup_l, tup_t, lst_l, lst_t, len_l, len_t, int_i, int_b, abs_i, max_ii, min_ii, ix_li, ix_ti, cut_l, cut_t, flat_i, flat_b, flat_s, ix0, ix1, ix2, mkTup, mkLst,
  wm_reve, rev_l, rev_t, wm_opBL, repr_l, sort_l, sum_l, wm_enum, enum_l, enum_t, enumL_nil, wm_dic, wm_kvn, wm_kvc, seq_s, mulT_si, len_s, ord_c, str_i, ty_d, k_lb, k_li, k_ls, k_tb, k_ti, k_ts, k_db, k_di, k_ds, k_lt, k_tl,
  isi_1, ty_n, ty_b, ty_i, ty_s, ty_l, ty_t, k_nb, k_bb, k_ib, k_sb, k_ni, k_bi, k_ii, k_si, k_ns, k_bs, k_is, k_ss, k_ll, k_tt,
  Int.reduceNeg, Int.reducePow, Int.reduceLT, Int.reduceLE, Int.reduceAdd, Int.reduceSub, Int.reduceMul, Int.reduceToNat, Nat.reduceAdd, Nat.reduceLeDiff, Nat.reduceEqDiff, Int.reduceEq, reduceCtorEq, this]
    by_cases hmo : w = "most"
    · rw [if_neg hle, if_pos hmo, if_pos (.inr hmo)]
      have := sp_extreme (w := w) (.inr hmo) h0 (fun p hp => (gk p hp).1) (by omega)
      simp only [backE, wipeE, wo_some, wo_none, wm_c, wm_var, wm_frz, wm_bin, wm_un, wm_tst, wm_tru, wm_truB, wm_chain, wm_and, wm_or, wm_not, wm_andV, wm_orV, wm_notV, wm_ifE, wm_nil, wm_cons, wm_app, wm_noP, wm_part, wm_sl, wm_pk, wm_io, wm_ix, wm_inB, wm_true, wm_seq, wm_rng1, wm_rng2,
  then_nx, then_ret, then_rof, then_brk, then_cnt, ws_next, ws_brk, ws_cnt, ws_seq, ws_if, ws_ret, ws_rof, ws_drop, ws_set, ws_own, ws_asg, wo_TN, wo_TNil, wo_TCons, wo_TTup, ws_ap, ws_setIx, ws_for, for_nil, turn_nx, turn_cnt, turn_brk, turn_ret, turn_rof, wm_lc, end_ret, end_nx, end_rof, end_io, ownOf_own, valOf_val, frz_val, frz_own, cOwn_own, peek_val, peek_own, by_val, by_own, canSet_none, canSet_val, canSet_own, lstOf_list,
  List.getElem?_cons_zero, List.getElem?_cons_succ, List.set_cons_zero, List.set_cons_succ, List.length_cons, List.length_nil, wo_ite, wo_bind, ↓reduceIte, and_true, true_and, and_self, Bool.false_eq_true, Bool.not_true, Bool.not_false, decide_eq_true_eq, decide_true, decide_false, oneInt_int, twoInts_int,
  add_ii, add_ll, add_tt, add_ss, sub_ii, mul_ii, mulS_ii, mod_ii, fdiv_ii, neg_i, le_ii, gt_ii, ge_ii, eqT_ii, eqT_ss, eqT_bb, eqT_nn, ltT_ii, ltT_ss, wo_eqD, wo_neD, wo_ltD, wo_inD, wo_ninD, is_n, isnt_n, is_bb, isnt_bb, isN, bOf_b, iOf_i, tru_b, tru_n, tru_i, tru_l, tru_t, seq_l, seq_t, tup_l, tup_t, lst_l, lst_t, len_l, len_t, int_i, int_b, abs_i, max_ii, min_ii, ix_li, ix_ti, cut_l, cut_t, flat_i, flat_b, flat_s, ix0, ix1, ix2, mkTup, mkLst,
  wm_reve, rev_l, rev_t, wm_opBL, repr_l, sort_l, sum_l, wm_enum, enum_l, enum_t, enumL_nil, wm_dic, wm_kvn, wm_kvc, seq_s, mulT_si, len_s, ord_c, str_i, ty_d, k_lb, k_li, k_ls, k_tb, k_ti, k_ts, k_db, k_di, k_ds, k_lt, k_tl,
  isi_1, ty_n, ty_b, ty_i, ty_s, ty_l, ty_t, k_nb, k_bb, k_ib, k_sb, k_ni, k_bi, k_ii, k_si, k_ns, k_bs, k_is, k_ss, k_ll, k_tt,
  Int.reduceNeg, Int.reducePow, Int.reduceLT, Int.reduceLE, Int.reduceAdd, Int.reduceSub, Int.reduceMul, Int.reduceToNat, Nat.reduceAdd, Nat.reduceLeDiff, Nat.reduceEqDiff, Int.reduceEq, reduceCtorEq, this]
    rw [if_neg hle, if_neg hmo, if_neg (fun z => z.elim hle hmo)]
    refine ⟨⟨by rw [List.length_map]; omega, rfl⟩, ?_⟩
    have hint : ∀ p ∈ knownL vs, ∃ i, p.1 = .int i := hi (by
      rcases hw with h | h | h | h | h | h | h
      · exact absurd h hc
      · exact .inl h
      · exact absurd h hle
      · exact absurd h hmo
      · exact .inr h
      · exact absurd h hf
      · exact absurd h hla)
    refine lc_mapA pvD (fun p => .int (ivD p.1 * p.2)) _ (fun p hp => ?_) ?_
    · obtain ⟨i, ei⟩ := hint p hp
      have hg := gk p hp
      rw [ei] at hg
      have hiv := of_decide_eq_true hg.2.1
      unfold pvD
      rw [ei]
      simp only [backE, wipeE, wo_some, wo_none, wm_c, wm_var, wm_frz, wm_bin, wm_un, wm_tst, wm_tru, wm_truB, wm_chain, wm_and, wm_or, wm_not, wm_andV, wm_orV, wm_notV, wm_ifE, wm_nil, wm_cons, wm_app, wm_noP, wm_part, wm_sl, wm_pk, wm_io, wm_ix, wm_inB, wm_true, wm_seq, wm_rng1, wm_rng2,
  then_nx, then_ret, then_rof, then_brk, then_cnt, ws_next, ws_brk, ws_cnt, ws_seq, ws_if, ws_ret, ws_rof, ws_drop, ws_set, ws_own, ws_asg, wo_TN, wo_TNil, wo_TCons, wo_TTup, ws_ap, ws_setIx, ws_for, for_nil, turn_nx, turn_cnt, turn_brk, turn_ret, turn_rof, wm_lc, end_ret, end_nx, end_rof, end_io, ownOf_own, valOf_val, frz_val, frz_own, cOwn_own, peek_val, peek_own, by_val, by_own, canSet_none, canSet_val, canSet_own, lstOf_list,
  List.getElem?_cons_zero, List.getElem?_cons_succ, List.set_cons_zero, List.set_cons_succ, List.length_cons, List.length_nil, wo_ite, wo_bind, ↓reduceIte, and_true, true_and, and_self, Bool.false_eq_true, Bool.not_true, Bool.not_false, decide_eq_true_eq, decide_true, decide_false, oneInt_int, twoInts_int,
  add_ii, add_ll, add_tt, add_ss, sub_ii, mul_ii, mulS_ii, mod_ii, fdiv_ii, neg_i, le_ii, gt_ii, ge_ii, eqT_ii, eqT_ss, eqT_bb, eqT_nn, ltT_ii, ltT_ss, wo_eqD, wo_neD, wo_ltD, wo_inD, wo_ninD, is_n, isnt_n, is_bb, isnt_bb, isN, bOf_b, iOf_i, tru_b, tru_n, tru_i, tru_l, tru_t, seq_l, seq_t, tup_l, tup_t, lst_l, lst_t, len_l, len_t, int_i, int_b, abs_i, max_ii, min_ii, ix_li, ix_ti, cut_l, cut_t, flat_i, flat_b, flat_s, ix0, ix1, ix2, mkTup, mkLst,
  wm_reve, rev_l, rev_t, wm_opBL, repr_l, sort_l, sum_l, wm_enum, enum_l, enum_t, enumL_nil, wm_dic, wm_kvn, wm_kvc, seq_s, mulT_si, len_s, ord_c, str_i, ty_d, k_lb, k_li, k_ls, k_tb, k_ti, k_ts, k_db, k_di, k_ds, k_lt, k_tl,
  isi_1, ty_n, ty_b, ty_i, ty_s, ty_l, ty_t, k_nb, k_bb, k_ib, k_sb, k_ni, k_bi, k_ii, k_si, k_ns, k_bs, k_is, k_ss, k_ll, k_tt,
  Int.reduceNeg, Int.reducePow, Int.reduceLT, Int.reduceLE, Int.reduceAdd, Int.reduceSub, Int.reduceMul, Int.reduceToNat, Nat.reduceAdd, Nat.reduceLeDiff, Nat.reduceEqDiff, Int.reduceEq, reduceCtorEq, log30 hiv hg.2.2, ivD]
      all_goals rfl
    have eT := nums_t (knownL vs)
    simp only [backE, wipeE, wo_some, wo_none, wm_c, wm_var, wm_frz, wm_bin, wm_un, wm_tst, wm_tru, wm_truB, wm_chain, wm_and, wm_or, wm_not, wm_andV, wm_orV, wm_notV, wm_ifE, wm_nil, wm_cons, wm_app, wm_noP, wm_part, wm_sl, wm_pk, wm_io, wm_ix, wm_inB, wm_true, wm_seq, wm_rng1, wm_rng2,
  then_nx, then_ret, then_rof, then_brk, then_cnt, ws_next, ws_brk, ws_cnt, ws_seq, ws_if, ws_ret, ws_rof, ws_drop, ws_set, ws_own, ws_asg, wo_TN, wo_TNil, wo_TCons, wo_TTup, ws_ap, ws_setIx, ws_for, for_nil, turn_nx, turn_cnt, turn_brk, turn_ret, turn_rof, wm_lc, end_ret, end_nx, end_rof, end_io, ownOf_own, valOf_val, frz_val, frz_own, cOwn_own, peek_val, peek_own, by_val, by_own, canSet_none, canSet_val, canSet_own, lstOf_list,
  List.getElem?_cons_zero, List.getElem?_cons_succ, List.set_cons_zero, List.set_cons_succ, List.length_cons, List.length_nil, wo_ite, wo_bind, ↓reduceIte, and_true, true_and, and_self, Bool.false_eq_true, Bool.not_true, Bool.not_false, decide_eq_true_eq, decide_true, decide_false, oneInt_int, twoInts_int,
  add_ii, add_ll, add_tt, add_ss, sub_ii, mul_ii, mulS_ii, mod_ii, fdiv_ii, neg_i, le_ii, gt_ii, ge_ii, eqT_ii, eqT_ss, eqT_bb, eqT_nn, ltT_ii, ltT_ss, wo_eqD, wo_neD, wo_ltD, wo_inD, wo_ninD, is_n, isnt_n, is_bb, isnt_bb, isN, bOf_b, iOf_i, tru_b, tru_n, tru_i, tru_l, tru_t, seq_l, seq_t, tup_l, tup_t, lst_l, lst_t, len_l, len_t, int_i, int_b, abs_i, max_ii, min_ii, ix_li, ix_ti, cut_l, cut_t, flat_i, flat_b, flat_s, ix0, ix1, ix2, mkTup, mkLst,
  wm_reve, rev_l, rev_t, wm_opBL, repr_l, sort_l, sum_l, wm_enum, enum_l, enum_t, enumL_nil, wm_dic, wm_kvn, wm_kvc, seq_s, mulT_si, len_s, ord_c, str_i, ty_d, k_lb, k_li, k_ls, k_tb, k_ti, k_ts, k_db, k_di, k_ds, k_lt, k_tl,
  isi_1, ty_n, ty_b, ty_i, ty_s, ty_l, ty_t, k_nb, k_bb, k_ib, k_sb, k_ni, k_bi, k_ii, k_si, k_ns, k_bs, k_is, k_ss, k_ll, k_tt,
  Int.reduceNeg, Int.reducePow, Int.reduceLT, Int.reduceLE, Int.reduceAdd, Int.reduceSub, Int.reduceMul, Int.reduceToNat, Nat.reduceAdd, Nat.reduceLeDiff, Nat.reduceEqDiff, Int.reduceEq, reduceCtorEq, eT]
    by_cases hsu : w = "sum"
    · rw [if_pos hsu, if_pos hsu]
      simp only [backE, wipeE, wo_some, wo_none, wm_c, wm_var, wm_frz, wm_bin, wm_un, wm_tst, wm_tru, wm_truB, wm_chain, wm_and, wm_or, wm_not, wm_andV, wm_orV, wm_notV, wm_ifE, wm_nil, wm_cons, wm_app, wm_noP, wm_part, wm_sl, wm_pk, wm_io, wm_ix, wm_inB, wm_true, wm_seq, wm_rng1, wm_rng2,
  then_nx, then_ret, then_rof, then_brk, then_cnt, ws_next, ws_brk, ws_cnt, ws_seq, ws_if, ws_ret, ws_rof, ws_drop, ws_set, ws_own, ws_asg, wo_TN, wo_TNil, wo_TCons, wo_TTup, ws_ap, ws_setIx, ws_for, for_nil, turn_nx, turn_cnt, turn_brk, turn_ret, turn_rof, wm_lc, end_ret, end_nx, end_rof, end_io, ownOf_own, valOf_val, frz_val, frz_own, cOwn_own, peek_val, peek_own, by_val, by_own, canSet_none, canSet_val, canSet_own, lstOf_list,
  List.getElem?_cons_zero, List.getElem?_cons_succ, List.set_cons_zero, List.set_cons_succ, List.length_cons, List.length_nil, wo_ite, wo_bind, ↓reduceIte, and_true, true_and, and_self, Bool.false_eq_true, Bool.not_true, Bool.not_false, decide_eq_true_eq, decide_true, decide_false, oneInt_int, twoInts_int,
  add_ii, add_ll, add_tt, add_ss, sub_ii, mul_ii, mulS_ii, mod_ii, fdiv_ii, neg_i, le_ii, gt_ii, ge_ii, eqT_ii, eqT_ss, eqT_bb, eqT_nn, ltT_ii, ltT_ss, wo_eqD, wo_neD, wo_ltD, wo_inD, wo_ninD, is_n, isnt_n, is_bb, isnt_bb, isN, bOf_b, iOf_i, tru_b, tru_n, tru_i, tru_l, tru_t, seq_l, seq_t, tup_l, tup_t, lst_l, lst_t, len_l, len_t, int_i, int_b, abs_i, max_ii, min_ii, ix_li, ix_ti, cut_l, cut_t, flat_i, flat_b, flat_s, ix0, ix1, ix2, mkTup, mkLst,
  wm_reve, rev_l, rev_t, wm_opBL, repr_l, sort_l, sum_l, wm_enum, enum_l, enum_t, enumL_nil, wm_dic, wm_kvn, wm_kvc, seq_s, mulT_si, len_s, ord_c, str_i, ty_d, k_lb, k_li, k_ls, k_tb, k_ti, k_ts, k_db, k_di, k_ds, k_lt, k_tl,
  isi_1, ty_n, ty_b, ty_i, ty_s, ty_l, ty_t, k_nb, k_bb, k_ib, k_sb, k_ni, k_bi, k_ii, k_si, k_ns, k_bs, k_is, k_ss, k_ll, k_tt,
  Int.reduceNeg, Int.reducePow, Int.reduceLT, Int.reduceLE, Int.reduceAdd, Int.reduceSub, Int.reduceMul, Int.reduceToNat, Nat.reduceAdd, Nat.reduceLeDiff, Nat.reduceEqDiff, Int.reduceEq, reduceCtorEq, sp_bounded]
      rfl
    · rw [if_neg hsu, if_neg hsu]
      have e1 : f_mean_of [.int ((knownL vs).map fun p => ivD p.1 * p.2).sum, .int ((knownL vs).map (·.2)).sum] = some (bndD (totL vs / cntL vs)) := by
        rw [← wo_eq]
        unfold f_mean_of
        rw [wo_runV]
        show Ws g_mean_of [some (.val (.int _)), some (.val (.int _))] _
        unfold g_mean_of
        have n0 : ¬ ((knownL vs).map (·.2)).sum = 0 := by omega
        have hd : 0 < ((knownL vs).map (·.2)).sum ∧ ((knownL vs).map (·.2)).sum < 18446744073709551616 := ⟨by omega, by omega⟩
        simp only [backE, wipeE, wo_some, wo_none, wm_c, wm_var, wm_frz, wm_bin, wm_un, wm_tst, wm_tru, wm_truB, wm_chain, wm_and, wm_or, wm_not, wm_andV, wm_orV, wm_notV, wm_ifE, wm_nil, wm_cons, wm_app, wm_noP, wm_part, wm_sl, wm_pk, wm_io, wm_ix, wm_inB, wm_true, wm_seq, wm_rng1, wm_rng2,
  then_nx, then_ret, then_rof, then_brk, then_cnt, ws_next, ws_brk, ws_cnt, ws_seq, ws_if, ws_ret, ws_rof, ws_drop, ws_set, ws_own, ws_asg, wo_TN, wo_TNil, wo_TCons, wo_TTup, ws_ap, ws_setIx, ws_for, for_nil, turn_nx, turn_cnt, turn_brk, turn_ret, turn_rof, wm_lc, end_ret, end_nx, end_rof, end_io, ownOf_own, valOf_val, frz_val, frz_own, cOwn_own, peek_val, peek_own, by_val, by_own, canSet_none, canSet_val, canSet_own, lstOf_list,
  List.getElem?_cons_zero, List.getElem?_cons_succ, List.set_cons_zero, List.set_cons_succ, List.length_cons, List.length_nil, wo_ite, wo_bind, ↓reduceIte, and_true, true_and, and_self, Bool.false_eq_true, Bool.not_true, Bool.not_false, decide_eq_true_eq, decide_true, decide_false, oneInt_int, twoInts_int,
  add_ii, add_ll, add_tt, add_ss, sub_ii, mul_ii, mulS_ii, mod_ii, fdiv_ii, neg_i, le_ii, gt_ii, ge_ii, eqT_ii, eqT_ss, eqT_bb, eqT_nn, ltT_ii, ltT_ss, wo_eqD, wo_neD, wo_ltD, wo_inD, wo_ninD, is_n, isnt_n, is_bb, isnt_bb, isN, bOf_b, iOf_i, tru_b, tru_n, tru_i, tru_l, tru_t, seq_l, seq_t, tup_l, tup_t, lst_l, lst_t, len_l, len_t, int_i, int_b, abs_i, max_ii, min_ii, ix_li, ix_ti, cut_l, cut_t, flat_i, flat_b, flat_s, ix0, ix1, ix2, mkTup, mkLst,
  wm_reve, rev_l, rev_t, wm_opBL, repr_l, sort_l, sum_l, wm_enum, enum_l, enum_t, enumL_nil, wm_dic, wm_kvn, wm_kvc, seq_s, mulT_si, len_s, ord_c, str_i, ty_d, k_lb, k_li, k_ls, k_tb, k_ti, k_ts, k_db, k_di, k_ds, k_lt, k_tl,
  isi_1, ty_n, ty_b, ty_i, ty_s, ty_l, ty_t, k_nb, k_bb, k_ib, k_sb, k_ni, k_bi, k_ii, k_si, k_ns, k_bs, k_is, k_ss, k_ll, k_tt,
  Int.reduceNeg, Int.reducePow, Int.reduceLT, Int.reduceLE, Int.reduceAdd, Int.reduceSub, Int.reduceMul, Int.reduceToNat, Nat.reduceAdd, Nat.reduceLeDiff, Nat.reduceEqDiff, Int.reduceEq, reduceCtorEq, n0, hd, sp_bounded]
        rfl
      simp only [backE, wipeE, wo_some, wo_none, wm_c, wm_var, wm_frz, wm_bin, wm_un, wm_tst, wm_tru, wm_truB, wm_chain, wm_and, wm_or, wm_not, wm_andV, wm_orV, wm_notV, wm_ifE, wm_nil, wm_cons, wm_app, wm_noP, wm_part, wm_sl, wm_pk, wm_io, wm_ix, wm_inB, wm_true, wm_seq, wm_rng1, wm_rng2,
  then_nx, then_ret, then_rof, then_brk, then_cnt, ws_next, ws_brk, ws_cnt, ws_seq, ws_if, ws_ret, ws_rof, ws_drop, ws_set, ws_own, ws_asg, wo_TN, wo_TNil, wo_TCons, wo_TTup, ws_ap, ws_setIx, ws_for, for_nil, turn_nx, turn_cnt, turn_brk, turn_ret, turn_rof, wm_lc, end_ret, end_nx, end_rof, end_io, ownOf_own, valOf_val, frz_val, frz_own, cOwn_own, peek_val, peek_own, by_val, by_own, canSet_none, canSet_val, canSet_own, lstOf_list,
  List.getElem?_cons_zero, List.getElem?_cons_succ, List.set_cons_zero, List.set_cons_succ, List.length_cons, List.length_nil, wo_ite, wo_bind, ↓reduceIte, and_true, true_and, and_self, Bool.false_eq_true, Bool.not_true, Bool.not_false, decide_eq_true_eq, decide_true, decide_false, oneInt_int, twoInts_int,
  add_ii, add_ll, add_tt, add_ss, sub_ii, mul_ii, mulS_ii, mod_ii, fdiv_ii, neg_i, le_ii, gt_ii, ge_ii, eqT_ii, eqT_ss, eqT_bb, eqT_nn, ltT_ii, ltT_ss, wo_eqD, wo_neD, wo_ltD, wo_inD, wo_ninD, is_n, isnt_n, is_bb, isnt_bb, isN, bOf_b, iOf_i, tru_b, tru_n, tru_i, tru_l, tru_t, seq_l, seq_t, tup_l, tup_t, lst_l, lst_t, len_l, len_t, int_i, int_b, abs_i, max_ii, min_ii, ix_li, ix_ti, cut_l, cut_t, flat_i, flat_b, flat_s, ix0, ix1, ix2, mkTup, mkLst,
  wm_reve, rev_l, rev_t, wm_opBL, repr_l, sort_l, sum_l, wm_enum, enum_l, enum_t, enumL_nil, wm_dic, wm_kvn, wm_kvc, seq_s, mulT_si, len_s, ord_c, str_i, ty_d, k_lb, k_li, k_ls, k_tb, k_ti, k_ts, k_db, k_di, k_ds, k_lt, k_tl,
  isi_1, ty_n, ty_b, ty_i, ty_s, ty_l, ty_t, k_nb, k_bb, k_ib, k_sb, k_ni, k_bi, k_ii, k_si, k_ns, k_bs, k_is, k_ss, k_ll, k_tt,
  Int.reduceNeg, Int.reducePow, Int.reduceLT, Int.reduceLE, Int.reduceAdd, Int.reduceSub, Int.reduceMul, Int.reduceToNat, Nat.reduceAdd, Nat.reduceLeDiff, Nat.reduceEqDiff, Int.reduceEq, reduceCtorEq, e1]
/-! the law's own reckoning -/
def stp (w : Str) (b x : D) : D := if w = "least" then (if ltV x b = true then x else b) else if w = "most" then (if ltV b x = true then x else b) else b
theorem best_for {w : Str} {f1 f2 f3 : Option Cell} {R : Fl → Dn.Env → Prop} : ∀ (ks : List (D × Int)) (b : D) (o5 : Option Cell), gv b → canSet (some o5) = some () → notOwn [o5] 0 = true → (∀ p ∈ ks, gv p.1) →
    (∀ o5, notOwn [o5] 0 = true → R .nx [some (.val (.str w)), f1, f2, f3, some (.val (ks.foldl (fun b p => stp w b p.1) b)), o5, none]) →
    Ws (forD (gTN 5) (sSeq (sIf (gAnd (gTst (gBin eqD (gVar 0) (gC (.str "least")))) (gTru (gApp f__law_before (gCons (gBin ixD (gVar 5) (gC (.int 0))) (gCons (gVar 4) gNil))))) (sSet 4 (gBin ixD (gVar 5) (gC (.int 0)))) sNext)
  (sIf (gAnd (gTst (gBin eqD (gVar 0) (gC (.str "most")))) (gTru (gApp f__law_before (gCons (gVar 4) (gCons (gBin ixD (gVar 5) (gC (.int 0))) gNil))))) (sSet 4 (gBin ixD (gVar 5) (gC (.int 0)))) sNext)) (ks.map pvD)) [some (.val (.str w)), f1, f2, f3, some (.val b), o5, none] R
  | [], b, o5, gb, h5, h5', hg, k => by
    rw [List.map_nil]
    simp only [backE, wipeE, wo_some, wo_none, wm_c, wm_var, wm_frz, wm_bin, wm_un, wm_tst, wm_tru, wm_truB, wm_chain, wm_and, wm_or, wm_not, wm_andV, wm_orV, wm_notV, wm_ifE, wm_nil, wm_cons, wm_app, wm_noP, wm_part, wm_sl, wm_pk, wm_io, wm_ix, wm_inB, wm_true, wm_seq, wm_rng1, wm_rng2,
  then_nx, then_ret, then_rof, then_brk, then_cnt, ws_next, ws_brk, ws_cnt, ws_seq, ws_if, ws_ret, ws_rof, ws_drop, ws_set, ws_own, ws_asg, wo_TN, wo_TNil, wo_TCons, wo_TTup, ws_ap, ws_setIx, ws_for, for_nil, turn_nx, turn_cnt, turn_brk, turn_ret, turn_rof, wm_lc, end_ret, end_nx, end_rof, end_io, ownOf_own, valOf_val, frz_val, frz_own, cOwn_own, peek_val, peek_own, by_val, by_own, canSet_none, canSet_val, canSet_own, lstOf_list,
  List.getElem?_cons_zero, List.getElem?_cons_succ, List.set_cons_zero, List.set_cons_succ, List.length_cons, List.length_nil, wo_ite, wo_bind, ↓reduceIte, and_true, true_and, and_self, Bool.false_eq_true, Bool.not_true, Bool.not_false, decide_eq_true_eq, decide_true, decide_false, oneInt_int, twoInts_int,
  add_ii, add_ll, add_tt, add_ss, sub_ii, mul_ii, mulS_ii, mod_ii, fdiv_ii, neg_i, le_ii, gt_ii, ge_ii, eqT_ii, eqT_ss, eqT_bb, eqT_nn, ltT_ii, ltT_ss, wo_eqD, wo_neD, wo_ltD, wo_inD, wo_ninD, is_n, isnt_n, is_bb, isnt_bb, isN, bOf_b, iOf_i, tru_b, tru_n, tru_i, tru_l, tru_t, seq_l, seq_t, tup_l, tup_t, lst_l, lst_t, len_l, len_t, int_i, int_b, abs_i, max_ii, min_ii, ix_li, ix_ti, cut_l, cut_t, flat_i, flat_b, flat_s, ix0, ix1, ix2, mkTup, mkLst,
  wm_reve, rev_l, rev_t, wm_opBL, repr_l, sort_l, sum_l, wm_enum, enum_l, enum_t, enumL_nil, wm_dic, wm_kvn, wm_kvc, seq_s, mulT_si, len_s, ord_c, str_i, ty_d, k_lb, k_li, k_ls, k_tb, k_ti, k_ts, k_db, k_di, k_ds, k_lt, k_tl,
  isi_1, ty_n, ty_b, ty_i, ty_s, ty_l, ty_t, k_nb, k_bb, k_ib, k_sb, k_ni, k_bi, k_ii, k_si, k_ns, k_bs, k_is, k_ss, k_ll, k_tt,
  Int.reduceNeg, Int.reducePow, Int.reduceLT, Int.reduceLE, Int.reduceAdd, Int.reduceSub, Int.reduceMul, Int.reduceToNat, Nat.reduceAdd, Nat.reduceLeDiff, Nat.reduceEqDiff, Int.reduceEq, reduceCtorEq]
    exact k o5 h5'
  | p :: ks, b, o5, gb, h5, h5', hg, k => by
    rw [List.map_cons, for_cons]
    have gp := hg p List.mem_cons_self
    have gk := fun q hq => hg q (List.mem_cons_of_mem p hq)
    have ih := fun b' gb' k' => best_for (w := w) (f1 := f1) (f2 := f2) (f3 := f3) (R := R) ks b' (some (.val (pvD p))) gb' rfl rfl gk k'
    unfold pvD at ih ⊢
    by_cases h1 : w = "least"
    · subst h1
      have n1 : ¬ (("least" : Str) = "most") := by decide
      simp only [backE, wipeE, wo_some, wo_none, wm_c, wm_var, wm_frz, wm_bin, wm_un, wm_tst, wm_tru, wm_truB, wm_chain, wm_and, wm_or, wm_not, wm_andV, wm_orV, wm_notV, wm_ifE, wm_nil, wm_cons, wm_app, wm_noP, wm_part, wm_sl, wm_pk, wm_io, wm_ix, wm_inB, wm_true, wm_seq, wm_rng1, wm_rng2,
  then_nx, then_ret, then_rof, then_brk, then_cnt, ws_next, ws_brk, ws_cnt, ws_seq, ws_if, ws_ret, ws_rof, ws_drop, ws_set, ws_own, ws_asg, wo_TN, wo_TNil, wo_TCons, wo_TTup, ws_ap, ws_setIx, ws_for, for_nil, turn_nx, turn_cnt, turn_brk, turn_ret, turn_rof, wm_lc, end_ret, end_nx, end_rof, end_io, ownOf_own, valOf_val, frz_val, frz_own, cOwn_own, peek_val, peek_own, by_val, by_own, canSet_none, canSet_val, canSet_own, lstOf_list,
  List.getElem?_cons_zero, List.getElem?_cons_succ, List.set_cons_zero, List.set_cons_succ, List.length_cons, List.length_nil, wo_ite, wo_bind, ↓reduceIte, and_true, true_and, and_self, Bool.false_eq_true, Bool.not_true, Bool.not_false, decide_eq_true_eq, decide_true, decide_false, oneInt_int, twoInts_int,
  add_ii, add_ll, add_tt, add_ss, sub_ii, mul_ii, mulS_ii, mod_ii, fdiv_ii, neg_i, le_ii, gt_ii, ge_ii, eqT_ii, eqT_ss, eqT_bb, eqT_nn, ltT_ii, ltT_ss, wo_eqD, wo_neD, wo_ltD, wo_inD, wo_ninD, is_n, isnt_n, is_bb, isnt_bb, isN, bOf_b, iOf_i, tru_b, tru_n, tru_i, tru_l, tru_t, seq_l, seq_t, tup_l, tup_t, lst_l, lst_t, len_l, len_t, int_i, int_b, abs_i, max_ii, min_ii, ix_li, ix_ti, cut_l, cut_t, flat_i, flat_b, flat_s, ix0, ix1, ix2, mkTup, mkLst,
  wm_reve, rev_l, rev_t, wm_opBL, repr_l, sort_l, sum_l, wm_enum, enum_l, enum_t, enumL_nil, wm_dic, wm_kvn, wm_kvc, seq_s, mulT_si, len_s, ord_c, str_i, ty_d, k_lb, k_li, k_ls, k_tb, k_ti, k_ts, k_db, k_di, k_ds, k_lt, k_tl,
  isi_1, ty_n, ty_b, ty_i, ty_s, ty_l, ty_t, k_nb, k_bb, k_ib, k_sb, k_ni, k_bi, k_ii, k_si, k_ns, k_bs, k_is, k_ss, k_ll, k_tt,
  Int.reduceNeg, Int.reducePow, Int.reduceLT, Int.reduceLE, Int.reduceAdd, Int.reduceSub, Int.reduceMul, Int.reduceToNat, Nat.reduceAdd, Nat.reduceLeDiff, Nat.reduceEqDiff, Int.reduceEq, reduceCtorEq, h5, sp_before gp gb, n1]
      cases hc : ltV p.1 b with
      | true =>
        rw [if_pos rfl]
        refine ih p.1 gp fun o5 h => ?_
        have := k o5 h
        simpa [stp, hc] using this
      | false =>
        rw [if_neg (by decide)]
        refine ih b gb fun o5 h => ?_
        have := k o5 h
        simpa [stp, hc] using this
    · by_cases h2 : w = "most"
      · subst h2
        simp only [backE, wipeE, wo_some, wo_none, wm_c, wm_var, wm_frz, wm_bin, wm_un, wm_tst, wm_tru, wm_truB, wm_chain, wm_and, wm_or, wm_not, wm_andV, wm_orV, wm_notV, wm_ifE, wm_nil, wm_cons, wm_app, wm_noP, wm_part, wm_sl, wm_pk, wm_io, wm_ix, wm_inB, wm_true, wm_seq, wm_rng1, wm_rng2,
  then_nx, then_ret, then_rof, then_brk, then_cnt, ws_next, ws_brk, ws_cnt, ws_seq, ws_if, ws_ret, ws_rof, ws_drop, ws_set, ws_own, ws_asg, wo_TN, wo_TNil, wo_TCons, wo_TTup, ws_ap, ws_setIx, ws_for, for_nil, turn_nx, turn_cnt, turn_brk, turn_ret, turn_rof, wm_lc, end_ret, end_nx, end_rof, end_io, ownOf_own, valOf_val, frz_val, frz_own, cOwn_own, peek_val, peek_own, by_val, by_own, canSet_none, canSet_val, canSet_own, lstOf_list,
  List.getElem?_cons_zero, List.getElem?_cons_succ, List.set_cons_zero, List.set_cons_succ, List.length_cons, List.length_nil, wo_ite, wo_bind, ↓reduceIte, and_true, true_and, and_self, Bool.false_eq_true, Bool.not_true, Bool.not_false, decide_eq_true_eq, decide_true, decide_false, oneInt_int, twoInts_int,
  add_ii, add_ll, add_tt, add_ss, sub_ii, mul_ii, mulS_ii, mod_ii, fdiv_ii, neg_i, le_ii, gt_ii, ge_ii, eqT_ii, eqT_ss, eqT_bb, eqT_nn, ltT_ii, ltT_ss, wo_eqD, wo_neD, wo_ltD, wo_inD, wo_ninD, is_n, isnt_n, is_bb, isnt_bb, isN, bOf_b, iOf_i, tru_b, tru_n, tru_i, tru_l, tru_t, seq_l, seq_t, tup_l, tup_t, lst_l, lst_t, len_l, len_t, int_i, int_b, abs_i, max_ii, min_ii, ix_li, ix_ti, cut_l, cut_t, flat_i, flat_b, flat_s, ix0, ix1, ix2, mkTup, mkLst,
  wm_reve, rev_l, rev_t, wm_opBL, repr_l, sort_l, sum_l, wm_enum, enum_l, enum_t, enumL_nil, wm_dic, wm_kvn, wm_kvc, seq_s, mulT_si, len_s, ord_c, str_i, ty_d, k_lb, k_li, k_ls, k_tb, k_ti, k_ts, k_db, k_di, k_ds, k_lt, k_tl,
  isi_1, ty_n, ty_b, ty_i, ty_s, ty_l, ty_t, k_nb, k_bb, k_ib, k_sb, k_ni, k_bi, k_ii, k_si, k_ns, k_bs, k_is, k_ss, k_ll, k_tt,
  Int.reduceNeg, Int.reducePow, Int.reduceLT, Int.reduceLE, Int.reduceAdd, Int.reduceSub, Int.reduceMul, Int.reduceToNat, Nat.reduceAdd, Nat.reduceLeDiff, Nat.reduceEqDiff, Int.reduceEq, reduceCtorEq, h5, sp_before gb gp, h1]
        cases hc : ltV b p.1 with
        | true =>
          rw [if_pos rfl]
          refine ih p.1 gp fun o5 h => ?_
          have := k o5 h
          simpa [stp, hc, h1] using this
        | false =>
          rw [if_neg (by decide)]
          refine ih b gb fun o5 h => ?_
          have := k o5 h
          simpa [stp, hc, h1] using this
      · simp only [backE, wipeE, wo_some, wo_none, wm_c, wm_var, wm_frz, wm_bin, wm_un, wm_tst, wm_tru, wm_truB, wm_chain, wm_and, wm_or, wm_not, wm_andV, wm_orV, wm_notV, wm_ifE, wm_nil, wm_cons, wm_app, wm_noP, wm_part, wm_sl, wm_pk, wm_io, wm_ix, wm_inB, wm_true, wm_seq, wm_rng1, wm_rng2,
  then_nx, then_ret, then_rof, then_brk, then_cnt, ws_next, ws_brk, ws_cnt, ws_seq, ws_if, ws_ret, ws_rof, ws_drop, ws_set, ws_own, ws_asg, wo_TN, wo_TNil, wo_TCons, wo_TTup, ws_ap, ws_setIx, ws_for, for_nil, turn_nx, turn_cnt, turn_brk, turn_ret, turn_rof, wm_lc, end_ret, end_nx, end_rof, end_io, ownOf_own, valOf_val, frz_val, frz_own, cOwn_own, peek_val, peek_own, by_val, by_own, canSet_none, canSet_val, canSet_own, lstOf_list,
  List.getElem?_cons_zero, List.getElem?_cons_succ, List.set_cons_zero, List.set_cons_succ, List.length_cons, List.length_nil, wo_ite, wo_bind, ↓reduceIte, and_true, true_and, and_self, Bool.false_eq_true, Bool.not_true, Bool.not_false, decide_eq_true_eq, decide_true, decide_false, oneInt_int, twoInts_int,
  add_ii, add_ll, add_tt, add_ss, sub_ii, mul_ii, mulS_ii, mod_ii, fdiv_ii, neg_i, le_ii, gt_ii, ge_ii, eqT_ii, eqT_ss, eqT_bb, eqT_nn, ltT_ii, ltT_ss, wo_eqD, wo_neD, wo_ltD, wo_inD, wo_ninD, is_n, isnt_n, is_bb, isnt_bb, isN, bOf_b, iOf_i, tru_b, tru_n, tru_i, tru_l, tru_t, seq_l, seq_t, tup_l, tup_t, lst_l, lst_t, len_l, len_t, int_i, int_b, abs_i, max_ii, min_ii, ix_li, ix_ti, cut_l, cut_t, flat_i, flat_b, flat_s, ix0, ix1, ix2, mkTup, mkLst,
  wm_reve, rev_l, rev_t, wm_opBL, repr_l, sort_l, sum_l, wm_enum, enum_l, enum_t, enumL_nil, wm_dic, wm_kvn, wm_kvc, seq_s, mulT_si, len_s, ord_c, str_i, ty_d, k_lb, k_li, k_ls, k_tb, k_ti, k_ts, k_db, k_di, k_ds, k_lt, k_tl,
  isi_1, ty_n, ty_b, ty_i, ty_s, ty_l, ty_t, k_nb, k_bb, k_ib, k_sb, k_ni, k_bi, k_ii, k_si, k_ns, k_bs, k_is, k_ss, k_ll, k_tt,
  Int.reduceNeg, Int.reducePow, Int.reduceLT, Int.reduceLE, Int.reduceAdd, Int.reduceSub, Int.reduceMul, Int.reduceToNat, Nat.reduceAdd, Nat.reduceLeDiff, Nat.reduceEqDiff, Int.reduceEq, reduceCtorEq, h5, h1, h2]
        refine ih b gb fun o5 h => ?_
        have := k o5 h
        simpa [stp, h1, h2] using this
theorem fold_best {w : Str} (h : w = "least" ∨ w = "most") (ks : List (D × Int)) (b : D) : ks.foldl (fun b p => stp w b p.1) b = bestL (decide (w = "most")) b ks := by
  unfold bestL
  rcases h with rfl | rfl
  · have n1 : ¬ (("least" : Str) = "most") := by decide
    simp [stp, n1]
  · have n1 : ¬ (("most" : Str) = "least") := by decide
    simp [stp, n1]
theorem in_two (w : Str) : inT (.str w) (.tuple [.str "least", .str "most"]) = some (decide (w = "least") || decide (w = "most")) := by
  show some ((PyData.eqv (.str "least") (.str w)) || ((PyData.eqv (.str "most") (.str w)) || false)) = _
  simp only [PyData.eqv, Bool.or_false]
  congr 1
  by_cases h1 : w = "least"
  · subst h1; simp
  · by_cases h2 : w = "most"
    · subst h2; simp
    · simp [h1, h2, Ne.symm h1, Ne.symm h2]
theorem sp_law_agg {w : Str} {vs : List (D × Int)} (hw : seven w) (hv : gvw vs) (hne : vs ≠ []) (hl : vs.length ≤ 100) (hi : ¬ w = "count" → ¬ w = "least" → ¬ w = "most" → ¬ w = "first" → ¬ w = "last" → ∀ p ∈ knownL vs, ∃ i, p.1 = .int i) : f__law_aggregate [.str w, .list (vs.map pvD)] = some (aggS w vs) := by
  have gk := known_g hv
  have hkl : (knownL vs).length ≤ vs.length := List.length_filter_le _ _
  obtain ⟨c0, c1, c2⟩ := cnt_b gk
  rw [← wo_eq]
  unfold f__law_aggregate
  rw [wo_runV]
  show Ws g__law_aggregate [some (.val (.str w)), some (.val (.list (vs.map pvD))), none, none, none, none, none] _
  unfold g__law_aggregate
  by_cases hf : w = "first"
  · subst hf
    obtain ⟨p, vs', rfl⟩ : ∃ p vs', vs = p :: vs' := by
      cases vs with
      | nil => exact absurd rfl hne
      | cons p vs' => exact ⟨p, vs', rfl⟩
    have e0 : ixA ((p :: vs').map pvD) 0 = some (.tuple [p.1, .int p.2]) := rfl
    simp only [backE, wipeE, wo_some, wo_none, wm_c, wm_var, wm_frz, wm_bin, wm_un, wm_tst, wm_tru, wm_truB, wm_chain, wm_and, wm_or, wm_not, wm_andV, wm_orV, wm_notV, wm_ifE, wm_nil, wm_cons, wm_app, wm_noP, wm_part, wm_sl, wm_pk, wm_io, wm_ix, wm_inB, wm_true, wm_seq, wm_rng1, wm_rng2,
  then_nx, then_ret, then_rof, then_brk, then_cnt, ws_next, ws_brk, ws_cnt, ws_seq, ws_if, ws_ret, ws_rof, ws_drop, ws_set, ws_own, ws_asg, wo_TN, wo_TNil, wo_TCons, wo_TTup, ws_ap, ws_setIx, ws_for, for_nil, turn_nx, turn_cnt, turn_brk, turn_ret, turn_rof, wm_lc, end_ret, end_nx, end_rof, end_io, ownOf_own, valOf_val, frz_val, frz_own, cOwn_own, peek_val, peek_own, by_val, by_own, canSet_none, canSet_val, canSet_own, lstOf_list,
  List.getElem?_cons_zero, List.getElem?_cons_succ, List.set_cons_zero, List.set_cons_succ, List.length_cons, List.length_nil, wo_ite, wo_bind, ↓reduceIte, and_true, true_and, and_self, Bool.false_eq_true, Bool.not_true, Bool.not_false, decide_eq_true_eq, decide_true, decide_false, oneInt_int, twoInts_int,
  add_ii, add_ll, add_tt, add_ss, sub_ii, mul_ii, mulS_ii, mod_ii, fdiv_ii, neg_i, le_ii, gt_ii, ge_ii, eqT_ii, eqT_ss, eqT_bb, eqT_nn, ltT_ii, ltT_ss, wo_eqD, wo_neD, wo_ltD, wo_inD, wo_ninD, is_n, isnt_n, is_bb, isnt_bb, isN, bOf_b, iOf_i, tru_b, tru_n, tru_i, tru_l, tru_t, seq_l, seq_t, tup_l, tup_t, lst_l, lst_t, len_l, len_t, int_i, int_b, abs_i, max_ii, min_ii, ix_li, ix_ti, cut_l, cut_t, flat_i, flat_b, flat_s, ix0, ix1, ix2, mkTup, mkLst,
  wm_reve, rev_l, rev_t, wm_opBL, repr_l, sort_l, sum_l, wm_enum, enum_l, enum_t, enumL_nil, wm_dic, wm_kvn, wm_kvc, seq_s, mulT_si, len_s, ord_c, str_i, ty_d, k_lb, k_li, k_ls, k_tb, k_ti, k_ts, k_db, k_di, k_ds, k_lt, k_tl,
  isi_1, ty_n, ty_b, ty_i, ty_s, ty_l, ty_t, k_nb, k_bb, k_ib, k_sb, k_ni, k_bi, k_ii, k_si, k_ns, k_bs, k_is, k_ss, k_ll, k_tt,
  Int.reduceNeg, Int.reducePow, Int.reduceLT, Int.reduceLE, Int.reduceAdd, Int.reduceSub, Int.reduceMul, Int.reduceToNat, Nat.reduceAdd, Nat.reduceLeDiff, Nat.reduceEqDiff, Int.reduceEq, reduceCtorEq, e0]
    all_goals rfl
  by_cases hla : w = "last"
  · subst hla
    obtain ⟨vs', p, rfl⟩ : ∃ vs' p, vs = vs' ++ [p] := by
      rcases List.eq_nil_or_concat vs with z | ⟨us', m, z⟩
      · exact absurd z hne
      · exact ⟨us', m, by rw [z, List.concat_eq_append]⟩
    have e0 : ixA ((vs' ++ [p]).map pvD) ((((vs' ++ [p]).map pvD).length : Int) - 1) = some (.tuple [p.1, .int p.2]) := by
      have e1 : ((((vs' ++ [p]).map pvD).length : Int) - 1) = ((vs'.length : Nat) : Int) := by
        rw [List.length_map, List.length_append, List.length_cons, List.length_nil]
        omega
      rw [e1, ixA_nat]
      simp [pvD]
    have n1 : ¬ (("last" : Str) = "first") := by decide
    simp only [backE, wipeE, wo_some, wo_none, wm_c, wm_var, wm_frz, wm_bin, wm_un, wm_tst, wm_tru, wm_truB, wm_chain, wm_and, wm_or, wm_not, wm_andV, wm_orV, wm_notV, wm_ifE, wm_nil, wm_cons, wm_app, wm_noP, wm_part, wm_sl, wm_pk, wm_io, wm_ix, wm_inB, wm_true, wm_seq, wm_rng1, wm_rng2,
  then_nx, then_ret, then_rof, then_brk, then_cnt, ws_next, ws_brk, ws_cnt, ws_seq, ws_if, ws_ret, ws_rof, ws_drop, ws_set, ws_own, ws_asg, wo_TN, wo_TNil, wo_TCons, wo_TTup, ws_ap, ws_setIx, ws_for, for_nil, turn_nx, turn_cnt, turn_brk, turn_ret, turn_rof, wm_lc, end_ret, end_nx, end_rof, end_io, ownOf_own, valOf_val, frz_val, frz_own, cOwn_own, peek_val, peek_own, by_val, by_own, canSet_none, canSet_val, canSet_own, lstOf_list,
  List.getElem?_cons_zero, List.getElem?_cons_succ, List.set_cons_zero, List.set_cons_succ, List.length_cons, List.length_nil, wo_ite, wo_bind, ↓reduceIte, and_true, true_and, and_self, Bool.false_eq_true, Bool.not_true, Bool.not_false, decide_eq_true_eq, decide_true, decide_false, oneInt_int, twoInts_int,
  add_ii, add_ll, add_tt, add_ss, sub_ii, mul_ii, mulS_ii, mod_ii, fdiv_ii, neg_i, le_ii, gt_ii, ge_ii, eqT_ii, eqT_ss, eqT_bb, eqT_nn, ltT_ii, ltT_ss, wo_eqD, wo_neD, wo_ltD, wo_inD, wo_ninD, is_n, isnt_n, is_bb, isnt_bb, isN, bOf_b, iOf_i, tru_b, tru_n, tru_i, tru_l, tru_t, seq_l, seq_t, tup_l, tup_t, lst_l, lst_t, len_l, len_t, int_i, int_b, abs_i, max_ii, min_ii, ix_li, ix_ti, cut_l, cut_t, flat_i, flat_b, flat_s, ix0, ix1, ix2, mkTup, mkLst,
  wm_reve, rev_l, rev_t, wm_opBL, repr_l, sort_l, sum_l, wm_enum, enum_l, enum_t, enumL_nil, wm_dic, wm_kvn, wm_kvc, seq_s, mulT_si, len_s, ord_c, str_i, ty_d, k_lb, k_li, k_ls, k_tb, k_ti, k_ts, k_db, k_di, k_ds, k_lt, k_tl,
  isi_1, ty_n, ty_b, ty_i, ty_s, ty_l, ty_t, k_nb, k_bb, k_ib, k_sb, k_ni, k_bi, k_ii, k_si, k_ns, k_bs, k_is, k_ss, k_ll, k_tt,
  Int.reduceNeg, Int.reducePow, Int.reduceLT, Int.reduceLE, Int.reduceAdd, Int.reduceSub, Int.reduceMul, Int.reduceToNat, Nat.reduceAdd, Nat.reduceLeDiff, Nat.reduceEqDiff, Int.reduceEq, reduceCtorEq, e0, n1]
    simp [aggS, n1]
  simp only [backE, wipeE, wo_some, wo_none, wm_c, wm_var, wm_frz, wm_bin, wm_un, wm_tst, wm_tru, wm_truB, wm_chain, wm_and, wm_or, wm_not, wm_andV, wm_orV, wm_notV, wm_ifE, wm_nil, wm_cons, wm_app, wm_noP, wm_part, wm_sl, wm_pk, wm_io, wm_ix, wm_inB, wm_true, wm_seq, wm_rng1, wm_rng2,
  then_nx, then_ret, then_rof, then_brk, then_cnt, ws_next, ws_brk, ws_cnt, ws_seq, ws_if, ws_ret, ws_rof, ws_drop, ws_set, ws_own, ws_asg, wo_TN, wo_TNil, wo_TCons, wo_TTup, ws_ap, ws_setIx, ws_for, for_nil, turn_nx, turn_cnt, turn_brk, turn_ret, turn_rof, wm_lc, end_ret, end_nx, end_rof, end_io, ownOf_own, valOf_val, frz_val, frz_own, cOwn_own, peek_val, peek_own, by_val, by_own, canSet_none, canSet_val, canSet_own, lstOf_list,
  List.getElem?_cons_zero, List.getElem?_cons_succ, List.set_cons_zero, List.set_cons_succ, List.length_cons, List.length_nil, wo_ite, wo_bind, ↓reduceIte, and_true, true_and, and_self, Bool.false_eq_true, Bool.not_true, Bool.not_false, decide_eq_true_eq, decide_true, decide_false, oneInt_int, twoInts_int,
  add_ii, add_ll, add_tt, add_ss, sub_ii, mul_ii, mulS_ii, mod_ii, fdiv_ii, neg_i, le_ii, gt_ii, ge_ii, eqT_ii, eqT_ss, eqT_bb, eqT_nn, ltT_ii, ltT_ss, wo_eqD, wo_neD, wo_ltD, wo_inD, wo_ninD, is_n, isnt_n, is_bb, isnt_bb, isN, bOf_b, iOf_i, tru_b, tru_n, tru_i, tru_l, tru_t, seq_l, seq_t, tup_l, tup_t, lst_l, lst_t, len_l, len_t, int_i, int_b, abs_i, max_ii, min_ii, ix_li, ix_ti, cut_l, cut_t, flat_i, flat_b, flat_s, ix0, ix1, ix2, mkTup, mkLst,
  wm_reve, rev_l, rev_t, wm_opBL, repr_l, sort_l, sum_l, wm_enum, enum_l, enum_t, enumL_nil, wm_dic, wm_kvn, wm_kvc, seq_s, mulT_si, len_s, ord_c, str_i, ty_d, k_lb, k_li, k_ls, k_tb, k_ti, k_ts, k_db, k_di, k_ds, k_lt, k_tl,
  isi_1, ty_n, ty_b, ty_i, ty_s, ty_l, ty_t, k_nb, k_bb, k_ib, k_sb, k_ni, k_bi, k_ii, k_si, k_ns, k_bs, k_is, k_ss, k_ll, k_tt,
  Int.reduceNeg, Int.reducePow, Int.reduceLT, Int.reduceLE, Int.reduceAdd, Int.reduceSub, Int.reduceMul, Int.reduceToNat, Nat.reduceAdd, Nat.reduceLeDiff, Nat.reduceEqDiff, Int.reduceEq, reduceCtorEq, hf, hla, List.length_map]
  refine ⟨⟨by omega, rfl⟩, ?_⟩
  refine lc_filterA pvD pvD (fun p => !isN p.1) vs (fun p hp => ?_) ?_
  · unfold pvD
    simp only [backE, wipeE, wo_some, wo_none, wm_c, wm_var, wm_frz, wm_bin, wm_un, wm_tst, wm_tru, wm_truB, wm_chain, wm_and, wm_or, wm_not, wm_andV, wm_orV, wm_notV, wm_ifE, wm_nil, wm_cons, wm_app, wm_noP, wm_part, wm_sl, wm_pk, wm_io, wm_ix, wm_inB, wm_true, wm_seq, wm_rng1, wm_rng2,
  then_nx, then_ret, then_rof, then_brk, then_cnt, ws_next, ws_brk, ws_cnt, ws_seq, ws_if, ws_ret, ws_rof, ws_drop, ws_set, ws_own, ws_asg, wo_TN, wo_TNil, wo_TCons, wo_TTup, ws_ap, ws_setIx, ws_for, for_nil, turn_nx, turn_cnt, turn_brk, turn_ret, turn_rof, wm_lc, end_ret, end_nx, end_rof, end_io, ownOf_own, valOf_val, frz_val, frz_own, cOwn_own, peek_val, peek_own, by_val, by_own, canSet_none, canSet_val, canSet_own, lstOf_list,
  List.getElem?_cons_zero, List.getElem?_cons_succ, List.set_cons_zero, List.set_cons_succ, List.length_cons, List.length_nil, wo_ite, wo_bind, ↓reduceIte, and_true, true_and, and_self, Bool.false_eq_true, Bool.not_true, Bool.not_false, decide_eq_true_eq, decide_true, decide_false, oneInt_int, twoInts_int,
  add_ii, add_ll, add_tt, add_ss, sub_ii, mul_ii, mulS_ii, mod_ii, fdiv_ii, neg_i, le_ii, gt_ii, ge_ii, eqT_ii, eqT_ss, eqT_bb, eqT_nn, ltT_ii, ltT_ss, wo_eqD, wo_neD, wo_ltD, wo_inD, wo_ninD, is_n, isnt_n, is_bb, isnt_bb, isN, bOf_b, iOf_i, tru_b, tru_n, tru_i, tru_l, tru_t, seq_l, seq_t, tup_l, tup_t, lst_l, lst_t, len_l, len_t, int_i, int_b, abs_i, max_ii, min_ii, ix_li, ix_ti, cut_l, cut_t, flat_i, flat_b, flat_s, ix0, ix1, ix2, mkTup, mkLst,
  wm_reve, rev_l, rev_t, wm_opBL, repr_l, sort_l, sum_l, wm_enum, enum_l, enum_t, enumL_nil, wm_dic, wm_kvn, wm_kvc, seq_s, mulT_si, len_s, ord_c, str_i, ty_d, k_lb, k_li, k_ls, k_tb, k_ti, k_ts, k_db, k_di, k_ds, k_lt, k_tl,
  isi_1, ty_n, ty_b, ty_i, ty_s, ty_l, ty_t, k_nb, k_bb, k_ib, k_sb, k_ni, k_bi, k_ii, k_si, k_ns, k_bs, k_is, k_ss, k_ll, k_tt,
  Int.reduceNeg, Int.reducePow, Int.reduceLT, Int.reduceLE, Int.reduceAdd, Int.reduceSub, Int.reduceMul, Int.reduceToNat, Nat.reduceAdd, Nat.reduceLeDiff, Nat.reduceEqDiff, Int.reduceEq, reduceCtorEq]
    exact ⟨fun _ => trivial, fun _ => trivial⟩
  show (fun _ : Unit => _) ()
  rw [show (vs.filter fun p => !isN p.1) = knownL vs from rfl]
  simp only [backE, wipeE, wo_some, wo_none, wm_c, wm_var, wm_frz, wm_bin, wm_un, wm_tst, wm_tru, wm_truB, wm_chain, wm_and, wm_or, wm_not, wm_andV, wm_orV, wm_notV, wm_ifE, wm_nil, wm_cons, wm_app, wm_noP, wm_part, wm_sl, wm_pk, wm_io, wm_ix, wm_inB, wm_true, wm_seq, wm_rng1, wm_rng2,
  then_nx, then_ret, then_rof, then_brk, then_cnt, ws_next, ws_brk, ws_cnt, ws_seq, ws_if, ws_ret, ws_rof, ws_drop, ws_set, ws_own, ws_asg, wo_TN, wo_TNil, wo_TCons, wo_TTup, ws_ap, ws_setIx, ws_for, for_nil, turn_nx, turn_cnt, turn_brk, turn_ret, turn_rof, wm_lc, end_ret, end_nx, end_rof, end_io, ownOf_own, valOf_val, frz_val, frz_own, cOwn_own, peek_val, peek_own, by_val, by_own, canSet_none, canSet_val, canSet_own, lstOf_list,
  List.getElem?_cons_zero, List.getElem?_cons_succ, List.set_cons_zero, List.set_cons_succ, List.length_cons, List.length_nil, wo_ite, wo_bind, ↓reduceIte, and_true, true_and, and_self, Bool.false_eq_true, Bool.not_true, Bool.not_false, decide_eq_true_eq, decide_true, decide_false, oneInt_int, twoInts_int,
  add_ii, add_ll, add_tt, add_ss, sub_ii, mul_ii, mulS_ii, mod_ii, fdiv_ii, neg_i, le_ii, gt_ii, ge_ii, eqT_ii, eqT_ss, eqT_bb, eqT_nn, ltT_ii, ltT_ss, wo_eqD, wo_neD, wo_ltD, wo_inD, wo_ninD, is_n, isnt_n, is_bb, isnt_bb, isN, bOf_b, iOf_i, tru_b, tru_n, tru_i, tru_l, tru_t, seq_l, seq_t, tup_l, tup_t, lst_l, lst_t, len_l, len_t, int_i, int_b, abs_i, max_ii, min_ii, ix_li, ix_ti, cut_l, cut_t, flat_i, flat_b, flat_s, ix0, ix1, ix2, mkTup, mkLst,
  wm_reve, rev_l, rev_t, wm_opBL, repr_l, sort_l, sum_l, wm_enum, enum_l, enum_t, enumL_nil, wm_dic, wm_kvn, wm_kvc, seq_s, mulT_si, len_s, ord_c, str_i, ty_d, k_lb, k_li, k_ls, k_tb, k_ti, k_ts, k_db, k_di, k_ds, k_lt, k_tl,
  isi_1, ty_n, ty_b, ty_i, ty_s, ty_l, ty_t, k_nb, k_bb, k_ib, k_sb, k_ni, k_bi, k_ii, k_si, k_ns, k_bs, k_is, k_ss, k_ll, k_tt,
  Int.reduceNeg, Int.reducePow, Int.reduceLT, Int.reduceLE, Int.reduceAdd, Int.reduceSub, Int.reduceMul, Int.reduceToNat, Nat.reduceAdd, Nat.reduceLeDiff, Nat.reduceEqDiff, Int.reduceEq, reduceCtorEq, List.length_map]
  refine ⟨⟨by omega, rfl⟩, ?_⟩
  refine lc_mapA pvD (fun p => .int p.2) _ (fun p hp => ?_) ?_
  · unfold pvD
    simp only [backE, wipeE, wo_some, wo_none, wm_c, wm_var, wm_frz, wm_bin, wm_un, wm_tst, wm_tru, wm_truB, wm_chain, wm_and, wm_or, wm_not, wm_andV, wm_orV, wm_notV, wm_ifE, wm_nil, wm_cons, wm_app, wm_noP, wm_part, wm_sl, wm_pk, wm_io, wm_ix, wm_inB, wm_true, wm_seq, wm_rng1, wm_rng2,
  then_nx, then_ret, then_rof, then_brk, then_cnt, ws_next, ws_brk, ws_cnt, ws_seq, ws_if, ws_ret, ws_rof, ws_drop, ws_set, ws_own, ws_asg, wo_TN, wo_TNil, wo_TCons, wo_TTup, ws_ap, ws_setIx, ws_for, for_nil, turn_nx, turn_cnt, turn_brk, turn_ret, turn_rof, wm_lc, end_ret, end_nx, end_rof, end_io, ownOf_own, valOf_val, frz_val, frz_own, cOwn_own, peek_val, peek_own, by_val, by_own, canSet_none, canSet_val, canSet_own, lstOf_list,
  List.getElem?_cons_zero, List.getElem?_cons_succ, List.set_cons_zero, List.set_cons_succ, List.length_cons, List.length_nil, wo_ite, wo_bind, ↓reduceIte, and_true, true_and, and_self, Bool.false_eq_true, Bool.not_true, Bool.not_false, decide_eq_true_eq, decide_true, decide_false, oneInt_int, twoInts_int,
  add_ii, add_ll, add_tt, add_ss, sub_ii, mul_ii, mulS_ii, mod_ii, fdiv_ii, neg_i, le_ii, gt_ii, ge_ii, eqT_ii, eqT_ss, eqT_bb, eqT_nn, ltT_ii, ltT_ss, wo_eqD, wo_neD, wo_ltD, wo_inD, wo_ninD, is_n, isnt_n, is_bb, isnt_bb, isN, bOf_b, iOf_i, tru_b, tru_n, tru_i, tru_l, tru_t, seq_l, seq_t, tup_l, tup_t, lst_l, lst_t, len_l, len_t, int_i, int_b, abs_i, max_ii, min_ii, ix_li, ix_ti, cut_l, cut_t, flat_i, flat_b, flat_s, ix0, ix1, ix2, mkTup, mkLst,
  wm_reve, rev_l, rev_t, wm_opBL, repr_l, sort_l, sum_l, wm_enum, enum_l, enum_t, enumL_nil, wm_dic, wm_kvn, wm_kvc, seq_s, mulT_si, len_s, ord_c, str_i, ty_d, k_lb, k_li, k_ls, k_tb, k_ti, k_ts, k_db, k_di, k_ds, k_lt, k_tl,
  isi_1, ty_n, ty_b, ty_i, ty_s, ty_l, ty_t, k_nb, k_bb, k_ib, k_sb, k_ni, k_bi, k_ii, k_si, k_ns, k_bs, k_is, k_ss, k_ll, k_tt,
  Int.reduceNeg, Int.reducePow, Int.reduceLT, Int.reduceLE, Int.reduceAdd, Int.reduceSub, Int.reduceMul, Int.reduceToNat, Nat.reduceAdd, Nat.reduceLeDiff, Nat.reduceEqDiff, Int.reduceEq, reduceCtorEq]
    all_goals rfl
  have eN := nums_w (knownL vs)
  simp only [backE, wipeE, wo_some, wo_none, wm_c, wm_var, wm_frz, wm_bin, wm_un, wm_tst, wm_tru, wm_truB, wm_chain, wm_and, wm_or, wm_not, wm_andV, wm_orV, wm_notV, wm_ifE, wm_nil, wm_cons, wm_app, wm_noP, wm_part, wm_sl, wm_pk, wm_io, wm_ix, wm_inB, wm_true, wm_seq, wm_rng1, wm_rng2,
  then_nx, then_ret, then_rof, then_brk, then_cnt, ws_next, ws_brk, ws_cnt, ws_seq, ws_if, ws_ret, ws_rof, ws_drop, ws_set, ws_own, ws_asg, wo_TN, wo_TNil, wo_TCons, wo_TTup, ws_ap, ws_setIx, ws_for, for_nil, turn_nx, turn_cnt, turn_brk, turn_ret, turn_rof, wm_lc, end_ret, end_nx, end_rof, end_io, ownOf_own, valOf_val, frz_val, frz_own, cOwn_own, peek_val, peek_own, by_val, by_own, canSet_none, canSet_val, canSet_own, lstOf_list,
  List.getElem?_cons_zero, List.getElem?_cons_succ, List.set_cons_zero, List.set_cons_succ, List.length_cons, List.length_nil, wo_ite, wo_bind, ↓reduceIte, and_true, true_and, and_self, Bool.false_eq_true, Bool.not_true, Bool.not_false, decide_eq_true_eq, decide_true, decide_false, oneInt_int, twoInts_int,
  add_ii, add_ll, add_tt, add_ss, sub_ii, mul_ii, mulS_ii, mod_ii, fdiv_ii, neg_i, le_ii, gt_ii, ge_ii, eqT_ii, eqT_ss, eqT_bb, eqT_nn, ltT_ii, ltT_ss, wo_eqD, wo_neD, wo_ltD, wo_inD, wo_ninD, is_n, isnt_n, is_bb, isnt_bb, isN, bOf_b, iOf_i, tru_b, tru_n, tru_i, tru_l, tru_t, seq_l, seq_t, tup_l, tup_t, lst_l, lst_t, len_l, len_t, int_i, int_b, abs_i, max_ii, min_ii, ix_li, ix_ti, cut_l, cut_t, flat_i, flat_b, flat_s, ix0, ix1, ix2, mkTup, mkLst,
  wm_reve, rev_l, rev_t, wm_opBL, repr_l, sort_l, sum_l, wm_enum, enum_l, enum_t, enumL_nil, wm_dic, wm_kvn, wm_kvc, seq_s, mulT_si, len_s, ord_c, str_i, ty_d, k_lb, k_li, k_ls, k_tb, k_ti, k_ts, k_db, k_di, k_ds, k_lt, k_tl,
  isi_1, ty_n, ty_b, ty_i, ty_s, ty_l, ty_t, k_nb, k_bb, k_ib, k_sb, k_ni, k_bi, k_ii, k_si, k_ns, k_bs, k_is, k_ss, k_ll, k_tt,
  Int.reduceNeg, Int.reducePow, Int.reduceLT, Int.reduceLE, Int.reduceAdd, Int.reduceSub, Int.reduceMul, Int.reduceToNat, Nat.reduceAdd, Nat.reduceLeDiff, Nat.reduceEqDiff, Int.reduceEq, reduceCtorEq, eN]
  by_cases hc : w = "count"
  · rw [if_pos hc]
    have hag : aggS w vs = bndD (cntL vs) := by
      unfold aggS
      rw [if_neg hf, if_neg hla, if_pos hc]
    rw [hag]
    show Wo (ixA [PyData.int (cntL vs), PyData.none] (if 1000000000 < cntL vs then 1 else 0)) fun x => x = bndD (cntL vs)
    have c0' : 0 ≤ cntL vs := c0
    unfold bndD
    have hn : ¬ cntL vs < -1000000000 := by omega
    by_cases hb : 1000000000 < cntL vs
    · rw [if_pos hb, if_pos (.inl hb)]
      exact ⟨_, rfl, rfl⟩
    · rw [if_neg hb, if_neg (fun z => z.elim hb hn)]
      exact ⟨_, rfl, rfl⟩
  rw [if_neg hc]
  have hag : aggS w vs = match (knownL vs)[0]? with
    | none => .none
    | some p0 => if w = "least" ∨ w = "most" then bestL (decide (w = "most")) p0.1 (knownL vs) else if w = "sum" then bndD (totL vs) else bndD (totL vs / cntL vs) := by
    unfold aggS
    rw [if_neg hf, if_neg hla, if_neg hc]
  rw [hag]
  simp only [backE, wipeE, wo_some, wo_none, wm_c, wm_var, wm_frz, wm_bin, wm_un, wm_tst, wm_tru, wm_truB, wm_chain, wm_and, wm_or, wm_not, wm_andV, wm_orV, wm_notV, wm_ifE, wm_nil, wm_cons, wm_app, wm_noP, wm_part, wm_sl, wm_pk, wm_io, wm_ix, wm_inB, wm_true, wm_seq, wm_rng1, wm_rng2,
  then_nx, then_ret, then_rof, then_brk, then_cnt, ws_next, ws_brk, ws_cnt, ws_seq, ws_if, ws_ret, ws_rof, ws_drop, ws_set, ws_own, ws_asg, wo_TN, wo_TNil, wo_TCons, wo_TTup, ws_ap, ws_setIx, ws_for, for_nil, turn_nx, turn_cnt, turn_brk, turn_ret, turn_rof, wm_lc, end_ret, end_nx, end_rof, end_io, ownOf_own, valOf_val, frz_val, frz_own, cOwn_own, peek_val, peek_own, by_val, by_own, canSet_none, canSet_val, canSet_own, lstOf_list,
  List.getElem?_cons_zero, List.getElem?_cons_succ, List.set_cons_zero, List.set_cons_succ, List.length_cons, List.length_nil, wo_ite, wo_bind, ↓reduceIte, and_true, true_and, and_self, Bool.false_eq_true, Bool.not_true, Bool.not_false, decide_eq_true_eq, decide_true, decide_false, oneInt_int, twoInts_int,
  add_ii, add_ll, add_tt, add_ss, sub_ii, mul_ii, mulS_ii, mod_ii, fdiv_ii, neg_i, le_ii, gt_ii, ge_ii, eqT_ii, eqT_ss, eqT_bb, eqT_nn, ltT_ii, ltT_ss, wo_eqD, wo_neD, wo_ltD, wo_inD, wo_ninD, is_n, isnt_n, is_bb, isnt_bb, isN, bOf_b, iOf_i, tru_b, tru_n, tru_i, tru_l, tru_t, seq_l, seq_t, tup_l, tup_t, lst_l, lst_t, len_l, len_t, int_i, int_b, abs_i, max_ii, min_ii, ix_li, ix_ti, cut_l, cut_t, flat_i, flat_b, flat_s, ix0, ix1, ix2, mkTup, mkLst,
  wm_reve, rev_l, rev_t, wm_opBL, repr_l, sort_l, sum_l, wm_enum, enum_l, enum_t, enumL_nil, wm_dic, wm_kvn, wm_kvc, seq_s, mulT_si, len_s, ord_c, str_i, ty_d, k_lb, k_li, k_ls, k_tb, k_ti, k_ts, k_db, k_di, k_ds, k_lt, k_tl,
  isi_1, ty_n, ty_b, ty_i, ty_s, ty_l, ty_t, k_nb, k_bb, k_ib, k_sb, k_ni, k_bi, k_ii, k_si, k_ns, k_bs, k_is, k_ss, k_ll, k_tt,
  Int.reduceNeg, Int.reducePow, Int.reduceLT, Int.reduceLE, Int.reduceAdd, Int.reduceSub, Int.reduceMul, Int.reduceToNat, Nat.reduceAdd, Nat.reduceLeDiff, Nat.reduceEqDiff, Int.reduceEq, reduceCtorEq, eqT_pv_nil gk]
  cases hk : knownL vs with
  | nil => rfl
  | cons p0 r =>
    rw [← hk]
    have hem : (knownL vs).isEmpty = false := by rw [hk]; rfl
    have h0 : (knownL vs)[0]? = some p0 := by rw [hk]; rfl
    have hp0 : p0 ∈ knownL vs := List.mem_of_getElem? h0
    have hc1 := c2 (by rw [hk]; exact List.cons_ne_nil _ _)
    have e0 : ixA ((knownL vs).map pvD) 0 = some (.tuple [p0.1, .int p0.2]) := by rw [hk]; rfl
    rw [hem, if_neg (by decide), h0]
    simp only
    simp only [backE, wipeE, wo_some, wo_none, wm_c, wm_var, wm_frz, wm_bin, wm_un, wm_tst, wm_tru, wm_truB, wm_chain, wm_and, wm_or, wm_not, wm_andV, wm_orV, wm_notV, wm_ifE, wm_nil, wm_cons, wm_app, wm_noP, wm_part, wm_sl, wm_pk, wm_io, wm_ix, wm_inB, wm_true, wm_seq, wm_rng1, wm_rng2,
  then_nx, then_ret, then_rof, then_brk, then_cnt, ws_next, ws_brk, ws_cnt, ws_seq, ws_if, ws_ret, ws_rof, ws_drop, ws_set, ws_own, ws_asg, wo_TN, wo_TNil, wo_TCons, wo_TTup, ws_ap, ws_setIx, ws_for, for_nil, turn_nx, turn_cnt, turn_brk, turn_ret, turn_rof, wm_lc, end_ret, end_nx, end_rof, end_io, ownOf_own, valOf_val, frz_val, frz_own, cOwn_own, peek_val, peek_own, by_val, by_own, canSet_none, canSet_val, canSet_own, lstOf_list,
  List.getElem?_cons_zero, List.getElem?_cons_succ, List.set_cons_zero, List.set_cons_succ, List.length_cons, List.length_nil, wo_ite, wo_bind, ↓reduceIte, and_true, true_and, and_self, Bool.false_eq_true, Bool.not_true, Bool.not_false, decide_eq_true_eq, decide_true, decide_false, oneInt_int, twoInts_int,
  add_ii, add_ll, add_tt, add_ss, sub_ii, mul_ii, mulS_ii, mod_ii, fdiv_ii, neg_i, le_ii, gt_ii, ge_ii, eqT_ii, eqT_ss, eqT_bb, eqT_nn, ltT_ii, ltT_ss, wo_eqD, wo_neD, wo_ltD, wo_inD, wo_ninD, is_n, isnt_n, is_bb, isnt_bb, isN, bOf_b, iOf_i, tru_b, tru_n, tru_i, tru_l, tru_t, seq_l, seq_t, tup_l, tup_t, lst_l, lst_t, len_l, len_t, int_i, int_b, abs_i, max_ii, min_ii, ix_li, ix_ti, cut_l, cut_t, flat_i, flat_b, flat_s, ix0, ix1, ix2, mkTup, mkLst,
  wm_reve, rev_l, rev_t, wm_opBL, repr_l, sort_l, sum_l, wm_enum, enum_l, enum_t, enumL_nil, wm_dic, wm_kvn, wm_kvc, seq_s, mulT_si, len_s, ord_c, str_i, ty_d, k_lb, k_li, k_ls, k_tb, k_ti, k_ts, k_db, k_di, k_ds, k_lt, k_tl,
  isi_1, ty_n, ty_b, ty_i, ty_s, ty_l, ty_t, k_nb, k_bb, k_ib, k_sb, k_ni, k_bi, k_ii, k_si, k_ns, k_bs, k_is, k_ss, k_ll, k_tt,
  Int.reduceNeg, Int.reducePow, Int.reduceLT, Int.reduceLE, Int.reduceAdd, Int.reduceSub, Int.reduceMul, Int.reduceToNat, Nat.reduceAdd, Nat.reduceLeDiff, Nat.reduceEqDiff, Int.reduceEq, reduceCtorEq, e0]
    refine best_for (knownL vs) p0.1 none (gk p0 hp0).1 rfl rfl (fun p hp => (gk p hp).1) fun o5 h5 => ?_
    simp only [backE, wipeE, wo_some, wo_none, wm_c, wm_var, wm_frz, wm_bin, wm_un, wm_tst, wm_tru, wm_truB, wm_chain, wm_and, wm_or, wm_not, wm_andV, wm_orV, wm_notV, wm_ifE, wm_nil, wm_cons, wm_app, wm_noP, wm_part, wm_sl, wm_pk, wm_io, wm_ix, wm_inB, wm_true, wm_seq, wm_rng1, wm_rng2,
  then_nx, then_ret, then_rof, then_brk, then_cnt, ws_next, ws_brk, ws_cnt, ws_seq, ws_if, ws_ret, ws_rof, ws_drop, ws_set, ws_own, ws_asg, wo_TN, wo_TNil, wo_TCons, wo_TTup, ws_ap, ws_setIx, ws_for, for_nil, turn_nx, turn_cnt, turn_brk, turn_ret, turn_rof, wm_lc, end_ret, end_nx, end_rof, end_io, ownOf_own, valOf_val, frz_val, frz_own, cOwn_own, peek_val, peek_own, by_val, by_own, canSet_none, canSet_val, canSet_own, lstOf_list,
  List.getElem?_cons_zero, List.getElem?_cons_succ, List.set_cons_zero, List.set_cons_succ, List.length_cons, List.length_nil, wo_ite, wo_bind, ↓reduceIte, and_true, true_and, and_self, Bool.false_eq_true, Bool.not_true, Bool.not_false, decide_eq_true_eq, decide_true, decide_false, oneInt_int, twoInts_int,
  add_ii, add_ll, add_tt, add_ss, sub_ii, mul_ii, mulS_ii, mod_ii, fdiv_ii, neg_i, le_ii, gt_ii, ge_ii, eqT_ii, eqT_ss, eqT_bb, eqT_nn, ltT_ii, ltT_ss, wo_eqD, wo_neD, wo_ltD, wo_inD, wo_ninD, is_n, isnt_n, is_bb, isnt_bb, isN, bOf_b, iOf_i, tru_b, tru_n, tru_i, tru_l, tru_t, seq_l, seq_t, tup_l, tup_t, lst_l, lst_t, len_l, len_t, int_i, int_b, abs_i, max_ii, min_ii, ix_li, ix_ti, cut_l, cut_t, flat_i, flat_b, flat_s, ix0, ix1, ix2, mkTup, mkLst,
  wm_reve, rev_l, rev_t, wm_opBL, repr_l, sort_l, sum_l, wm_enum, enum_l, enum_t, enumL_nil, wm_dic, wm_kvn, wm_kvc, seq_s, mulT_si, len_s, ord_c, str_i, ty_d, k_lb, k_li, k_ls, k_tb, k_ti, k_ts, k_db, k_di, k_ds, k_lt, k_tl,
  isi_1, ty_n, ty_b, ty_i, ty_s, ty_l, ty_t, k_nb, k_bb, k_ib, k_sb, k_ni, k_bi, k_ii, k_si, k_ns, k_bs, k_is, k_ss, k_ll, k_tt,
  Int.reduceNeg, Int.reducePow, Int.reduceLT, Int.reduceLE, Int.reduceAdd, Int.reduceSub, Int.reduceMul, Int.reduceToNat, Nat.reduceAdd, Nat.reduceLeDiff, Nat.reduceEqDiff, Int.reduceEq, reduceCtorEq, in_two w]
    by_cases hlm : w = "least" ∨ w = "most"
    · have e1 : (decide (w = "least") || decide (w = "most")) = true := by
        rcases hlm with h | h <;> simp [h]
      rw [if_pos e1, if_pos hlm]
      exact fold_best hlm _ _
    · have hle : ¬ w = "least" := fun z => hlm (.inl z)
      have hmo : ¬ w = "most" := fun z => hlm (.inr z)
      have e1 : (decide (w = "least") || decide (w = "most")) = false := by simp [hle, hmo]
      rw [if_neg (by rw [e1]; decide), if_neg hlm]
      have hint := hi hc hle hmo hf hla
      simp only [backE, wipeE, wo_some, wo_none, wm_c, wm_var, wm_frz, wm_bin, wm_un, wm_tst, wm_tru, wm_truB, wm_chain, wm_and, wm_or, wm_not, wm_andV, wm_orV, wm_notV, wm_ifE, wm_nil, wm_cons, wm_app, wm_noP, wm_part, wm_sl, wm_pk, wm_io, wm_ix, wm_inB, wm_true, wm_seq, wm_rng1, wm_rng2,
  then_nx, then_ret, then_rof, then_brk, then_cnt, ws_next, ws_brk, ws_cnt, ws_seq, ws_if, ws_ret, ws_rof, ws_drop, ws_set, ws_own, ws_asg, wo_TN, wo_TNil, wo_TCons, wo_TTup, ws_ap, ws_setIx, ws_for, for_nil, turn_nx, turn_cnt, turn_brk, turn_ret, turn_rof, wm_lc, end_ret, end_nx, end_rof, end_io, ownOf_own, valOf_val, frz_val, frz_own, cOwn_own, peek_val, peek_own, by_val, by_own, canSet_none, canSet_val, canSet_own, lstOf_list,
  List.getElem?_cons_zero, List.getElem?_cons_succ, List.set_cons_zero, List.set_cons_succ, List.length_cons, List.length_nil, wo_ite, wo_bind, ↓reduceIte, and_true, true_and, and_self, Bool.false_eq_true, Bool.not_true, Bool.not_false, decide_eq_true_eq, decide_true, decide_false, oneInt_int, twoInts_int,
  add_ii, add_ll, add_tt, add_ss, sub_ii, mul_ii, mulS_ii, mod_ii, fdiv_ii, neg_i, le_ii, gt_ii, ge_ii, eqT_ii, eqT_ss, eqT_bb, eqT_nn, ltT_ii, ltT_ss, wo_eqD, wo_neD, wo_ltD, wo_inD, wo_ninD, is_n, isnt_n, is_bb, isnt_bb, isN, bOf_b, iOf_i, tru_b, tru_n, tru_i, tru_l, tru_t, seq_l, seq_t, tup_l, tup_t, lst_l, lst_t, len_l, len_t, int_i, int_b, abs_i, max_ii, min_ii, ix_li, ix_ti, cut_l, cut_t, flat_i, flat_b, flat_s, ix0, ix1, ix2, mkTup, mkLst,
  wm_reve, rev_l, rev_t, wm_opBL, repr_l, sort_l, sum_l, wm_enum, enum_l, enum_t, enumL_nil, wm_dic, wm_kvn, wm_kvc, seq_s, mulT_si, len_s, ord_c, str_i, ty_d, k_lb, k_li, k_ls, k_tb, k_ti, k_ts, k_db, k_di, k_ds, k_lt, k_tl,
  isi_1, ty_n, ty_b, ty_i, ty_s, ty_l, ty_t, k_nb, k_bb, k_ib, k_sb, k_ni, k_bi, k_ii, k_si, k_ns, k_bs, k_is, k_ss, k_ll, k_tt,
  Int.reduceNeg, Int.reducePow, Int.reduceLT, Int.reduceLE, Int.reduceAdd, Int.reduceSub, Int.reduceMul, Int.reduceToNat, Nat.reduceAdd, Nat.reduceLeDiff, Nat.reduceEqDiff, Int.reduceEq, reduceCtorEq, List.length_map]
      refine ⟨⟨by omega, by simpa [notOwn] using h5⟩, ?_⟩
      refine lc_mapA pvD (fun p => .int (ivD p.1 * p.2)) _ (fun p hp => ?_) ?_
      · obtain ⟨i, ei⟩ := hint p hp
        have hg := gk p hp
        rw [ei] at hg
        have hiv := of_decide_eq_true hg.2.1
        unfold pvD
        rw [ei]
        simp only [backE, wipeE, wo_some, wo_none, wm_c, wm_var, wm_frz, wm_bin, wm_un, wm_tst, wm_tru, wm_truB, wm_chain, wm_and, wm_or, wm_not, wm_andV, wm_orV, wm_notV, wm_ifE, wm_nil, wm_cons, wm_app, wm_noP, wm_part, wm_sl, wm_pk, wm_io, wm_ix, wm_inB, wm_true, wm_seq, wm_rng1, wm_rng2,
  then_nx, then_ret, then_rof, then_brk, then_cnt, ws_next, ws_brk, ws_cnt, ws_seq, ws_if, ws_ret, ws_rof, ws_drop, ws_set, ws_own, ws_asg, wo_TN, wo_TNil, wo_TCons, wo_TTup, ws_ap, ws_setIx, ws_for, for_nil, turn_nx, turn_cnt, turn_brk, turn_ret, turn_rof, wm_lc, end_ret, end_nx, end_rof, end_io, ownOf_own, valOf_val, frz_val, frz_own, cOwn_own, peek_val, peek_own, by_val, by_own, canSet_none, canSet_val, canSet_own, lstOf_list,
  List.getElem?_cons_zero, List.getElem?_cons_succ, List.set_cons_zero, List.set_cons_succ, List.length_cons, List.length_nil, wo_ite, wo_bind, ↓reduceIte, and_true, true_and, and_self, Bool.false_eq_true, Bool.not_true, Bool.not_false, decide_eq_true_eq, decide_true, decide_false, oneInt_int, twoInts_int,
  add_ii, add_ll, add_tt, add_ss, sub_ii, mul_ii, mulS_ii, mod_ii, fdiv_ii, neg_i, le_ii, gt_ii, ge_ii, eqT_ii, eqT_ss, eqT_bb, eqT_nn, ltT_ii, ltT_ss, wo_eqD, wo_neD, wo_ltD, wo_inD, wo_ninD, is_n, isnt_n, is_bb, isnt_bb, isN, bOf_b, iOf_i, tru_b, tru_n, tru_i, tru_l, tru_t, seq_l, seq_t, tup_l, tup_t, lst_l, lst_t, len_l, len_t, int_i, int_b, abs_i, max_ii, min_ii, ix_li, ix_ti, cut_l, cut_t, flat_i, flat_b, flat_s, ix0, ix1, ix2, mkTup, mkLst,
  wm_reve, rev_l, rev_t, wm_opBL, repr_l, sort_l, sum_l, wm_enum, enum_l, enum_t, enumL_nil, wm_dic, wm_kvn, wm_kvc, seq_s, mulT_si, len_s, ord_c, str_i, ty_d, k_lb, k_li, k_ls, k_tb, k_ti, k_ts, k_db, k_di, k_ds, k_lt, k_tl,
  isi_1, ty_n, ty_b, ty_i, ty_s, ty_l, ty_t, k_nb, k_bb, k_ib, k_sb, k_ni, k_bi, k_ii, k_si, k_ns, k_bs, k_is, k_ss, k_ll, k_tt,
  Int.reduceNeg, Int.reducePow, Int.reduceLT, Int.reduceLE, Int.reduceAdd, Int.reduceSub, Int.reduceMul, Int.reduceToNat, Nat.reduceAdd, Nat.reduceLeDiff, Nat.reduceEqDiff, Int.reduceEq, reduceCtorEq, log30 hiv hg.2.2, ivD]
        all_goals rfl
      have eT := nums_t (knownL vs)
      have fin : ∀ (n : Int), if 1000000000 < n then PyData.none = bndD n else Wo (ixA [PyData.int n, PyData.none] (if n < -1000000000 then 1 else 0)) fun x => x = bndD n := by
        intro n
        by_cases hb : 1000000000 < n
        · rw [if_pos hb]
          unfold bndD
          rw [if_pos (Or.inl hb)]
        · rw [if_neg hb]
          unfold bndD
          by_cases hb2 : n < -1000000000
          · rw [if_pos hb2, if_pos (Or.inr hb2)]
            exact ⟨_, rfl, rfl⟩
          · rw [if_neg hb2, if_neg (fun z => Or.elim z hb hb2)]
            exact ⟨_, rfl, rfl⟩
      simp only [backE, wipeE, wo_some, wo_none, wm_c, wm_var, wm_frz, wm_bin, wm_un, wm_tst, wm_tru, wm_truB, wm_chain, wm_and, wm_or, wm_not, wm_andV, wm_orV, wm_notV, wm_ifE, wm_nil, wm_cons, wm_app, wm_noP, wm_part, wm_sl, wm_pk, wm_io, wm_ix, wm_inB, wm_true, wm_seq, wm_rng1, wm_rng2,
  then_nx, then_ret, then_rof, then_brk, then_cnt, ws_next, ws_brk, ws_cnt, ws_seq, ws_if, ws_ret, ws_rof, ws_drop, ws_set, ws_own, ws_asg, wo_TN, wo_TNil, wo_TCons, wo_TTup, ws_ap, ws_setIx, ws_for, for_nil, turn_nx, turn_cnt, turn_brk, turn_ret, turn_rof, wm_lc, end_ret, end_nx, end_rof, end_io, ownOf_own, valOf_val, frz_val, frz_own, cOwn_own, peek_val, peek_own, by_val, by_own, canSet_none, canSet_val, canSet_own, lstOf_list,
  List.getElem?_cons_zero, List.getElem?_cons_succ, List.set_cons_zero, List.set_cons_succ, List.length_cons, List.length_nil, wo_ite, wo_bind, ↓reduceIte, and_true, true_and, and_self, Bool.false_eq_true, Bool.not_true, Bool.not_false, decide_eq_true_eq, decide_true, decide_false, oneInt_int, twoInts_int,
  add_ii, add_ll, add_tt, add_ss, sub_ii, mul_ii, mulS_ii, mod_ii, fdiv_ii, neg_i, le_ii, gt_ii, ge_ii, eqT_ii, eqT_ss, eqT_bb, eqT_nn, ltT_ii, ltT_ss, wo_eqD, wo_neD, wo_ltD, wo_inD, wo_ninD, is_n, isnt_n, is_bb, isnt_bb, isN, bOf_b, iOf_i, tru_b, tru_n, tru_i, tru_l, tru_t, seq_l, seq_t, tup_l, tup_t, lst_l, lst_t, len_l, len_t, int_i, int_b, abs_i, max_ii, min_ii, ix_li, ix_ti, cut_l, cut_t, flat_i, flat_b, flat_s, ix0, ix1, ix2, mkTup, mkLst,
  wm_reve, rev_l, rev_t, wm_opBL, repr_l, sort_l, sum_l, wm_enum, enum_l, enum_t, enumL_nil, wm_dic, wm_kvn, wm_kvc, seq_s, mulT_si, len_s, ord_c, str_i, ty_d, k_lb, k_li, k_ls, k_tb, k_ti, k_ts, k_db, k_di, k_ds, k_lt, k_tl,
  isi_1, ty_n, ty_b, ty_i, ty_s, ty_l, ty_t, k_nb, k_bb, k_ib, k_sb, k_ni, k_bi, k_ii, k_si, k_ns, k_bs, k_is, k_ss, k_ll, k_tt,
  Int.reduceNeg, Int.reducePow, Int.reduceLT, Int.reduceLE, Int.reduceAdd, Int.reduceSub, Int.reduceMul, Int.reduceToNat, Nat.reduceAdd, Nat.reduceLeDiff, Nat.reduceEqDiff, Int.reduceEq, reduceCtorEq, eT]
      by_cases hm : w = "mean"
      · have hns : ¬ w = "sum" := fun z => by
          rw [z] at hm
          exact absurd hm (by decide)
        rw [if_pos hm, if_pos ⟨by omega, by omega⟩, if_neg hns]
        exact fin _
      · have hs : w = "sum" := by
          rcases hw with h | h | h | h | h | h | h
          · exact absurd h hc
          · exact h
          · exact absurd h hle
          · exact absurd h hmo
          · exact absurd h hm
          · exact absurd h hf
          · exact absurd h hla
        rw [if_neg hm, if_pos hs]
        exact fin _
/-- what comes of it is a value -/
theorem agg_gv {w : Str} {vs : List (D × Int)} (hv : gvw vs) : gv (aggS w vs) := by
  have gb : ∀ n, gv (bndD n) := fun n => by
    unfold bndD
    split
    · exact gv_none
    · exact gv_int _
  have gk := known_g hv
  unfold aggS
  split
  · cases h : vs[0]? with
    | none => exact gv_none
    | some p => exact (hv p (List.mem_of_getElem? h)).1
  split
  · cases h : vs.getLast? with
    | none => exact gv_none
    | some p => exact (hv p (List.mem_of_getLast? h)).1
  split
  · exact gb _
  cases h : (knownL vs)[0]? with
  | none => exact gv_none
  | some p0 =>
    simp only
    have hp0 := List.mem_of_getElem? h
    split
    · exact (bestL_ext _ (knownL vs) p0.1 (gk p0 hp0).1 fun p hp => (gk p hp).1).1
    split <;> exact gb _

theorem in_sm (w : Str) : inT (.str w) (.tuple [.str "sum", .str "mean"]) = some (decide (w = "sum") || decide (w = "mean")) := by
  show some ((PyData.eqv (.str "sum") (.str w)) || ((PyData.eqv (.str "mean") (.str w)) || false)) = _
  simp only [PyData.eqv, Bool.or_false]
  congr 1
  by_cases h1 : w = "sum"
  · subst h1; simp
  · by_cases h2 : w = "mean"
    · subst h2; simp
    · simp [h1, h2, Ne.symm h1, Ne.symm h2]
theorem law_true : ∀ ns : List Int, ns.length ≤ 63 → f_law [.list (ns.map PyData.int)] = some (.bool true) := by
  intro ns hns
  rw [← wo_eq]
  unfold f_law
  rw [wo_runV]
  show Ws g_law [some (.val (.list (ns.map PyData.int))), none, none, none, none, none, none, none, none, none, none, none] _
  unfold g_law
  simp only [backE, wipeE, wo_some, wo_none, wm_c, wm_var, wm_frz, wm_bin, wm_un, wm_tst, wm_tru, wm_truB, wm_chain, wm_and, wm_or, wm_not, wm_andV, wm_orV, wm_notV, wm_ifE, wm_nil, wm_cons, wm_app, wm_noP, wm_part, wm_sl, wm_pk, wm_io, wm_ix, wm_inB, wm_true, wm_seq, wm_rng1, wm_rng2,
  then_nx, then_ret, then_rof, then_brk, then_cnt, ws_next, ws_brk, ws_cnt, ws_seq, ws_if, ws_ret, ws_rof, ws_drop, ws_set, ws_own, ws_asg, wo_TN, wo_TNil, wo_TCons, wo_TTup, ws_ap, ws_setIx, ws_for, for_nil, turn_nx, turn_cnt, turn_brk, turn_ret, turn_rof, wm_lc, end_ret, end_nx, end_rof, end_io, ownOf_own, valOf_val, frz_val, frz_own, cOwn_own, peek_val, peek_own, by_val, by_own, canSet_none, canSet_val, canSet_own, lstOf_list,
  List.getElem?_cons_zero, List.getElem?_cons_succ, List.set_cons_zero, List.set_cons_succ, List.length_cons, List.length_nil, wo_ite, wo_bind, ↓reduceIte, and_true, true_and, and_self, Bool.false_eq_true, Bool.not_true, Bool.not_false, decide_eq_true_eq, decide_true, decide_false, oneInt_int, twoInts_int,
  add_ii, add_ll, add_tt, add_ss, sub_ii, mul_ii, mulS_ii, mod_ii, fdiv_ii, neg_i, le_ii, gt_ii, ge_ii, eqT_ii, eqT_ss, eqT_bb, eqT_nn, ltT_ii, ltT_ss, wo_eqD, wo_neD, wo_ltD, wo_inD, wo_ninD, is_n, isnt_n, is_bb, isnt_bb, isN, bOf_b, iOf_i, tru_b, tru_n, tru_i, tru_l, tru_t, seq_l, seq_t, tup_l, tup_t, lst_l, lst_t, len_l, len_t, int_i, int_b, abs_i, max_ii, min_ii, ix_li, ix_ti, cut_l, cut_t, flat_i, flat_b, flat_s, ix0, ix1, ix2, mkTup, mkLst,
  wm_reve, rev_l, rev_t, wm_opBL, repr_l, sort_l, sum_l, wm_enum, enum_l, enum_t, enumL_nil, wm_dic, wm_kvn, wm_kvc, seq_s, mulT_si, len_s, ord_c, str_i, ty_d, k_lb, k_li, k_ls, k_tb, k_ti, k_ts, k_db, k_di, k_ds, k_lt, k_tl,
  isi_1, ty_n, ty_b, ty_i, ty_s, ty_l, ty_t, k_nb, k_bb, k_ib, k_sb, k_ni, k_bi, k_ii, k_si, k_ns, k_bs, k_is, k_ss, k_ll, k_tt,
  Int.reduceNeg, Int.reducePow, Int.reduceLT, Int.reduceLE, Int.reduceAdd, Int.reduceSub, Int.reduceMul, Int.reduceToNat, Nat.reduceAdd, Nat.reduceLeDiff, Nat.reduceEqDiff, Int.reduceEq, reduceCtorEq, List.length_map]
  obtain ⟨n, hn, hn20⟩ := times (l := ns.length) (m := 20) (M := 20) rfl (by decide)
  rw [hn, if_pos (small_nat (by omega)), Int.toNat_natCast]
  refine ws_forall (fun p ρ => ∃ o2 o3 o4 o5 o6 o7 o8 o9 o10 : Option Cell, (canSet (some o2) = some () ∧ canSet (some o3) = some () ∧ canSet (some o4) = some () ∧ canSet (some o5) = some () ∧ canSet (some o6) = some () ∧ canSet (some o7) = some () ∧ canSet (some o8) = some () ∧ canSet (some o9) = some () ∧ canSet (some o10) = some ()) ∧
    ρ = [some (.val (.list (ns.map PyData.int))), some (.val (.list [.str "count", .str "sum", .str "least", .str "most", .str "mean", .str "first", .str "last"])), o2, o3, o4, o5, o6, o7, o8, o9, o10, none]) ⟨none, none, none, none, none, none, none, none, none, ⟨rfl, rfl, rfl, rfl, rfl, rfl, rfl, rfl, rfl⟩, rfl⟩ ?_ ?_
  · rintro p d r ρ e ⟨o2, o3, o4, o5, o6, o7, o8, o9, o10, ⟨h2, h3, h4, h5, h6, h7, h8, h9, h10⟩, rfl⟩
    obtain ⟨i, rfl, _⟩ := rng_mem d (by rw [e]; simp)
    simp only [backE, wipeE, wo_some, wo_none, wm_c, wm_var, wm_frz, wm_bin, wm_un, wm_tst, wm_tru, wm_truB, wm_chain, wm_and, wm_or, wm_not, wm_andV, wm_orV, wm_notV, wm_ifE, wm_nil, wm_cons, wm_app, wm_noP, wm_part, wm_sl, wm_pk, wm_io, wm_ix, wm_inB, wm_true, wm_seq, wm_rng1, wm_rng2,
  then_nx, then_ret, then_rof, then_brk, then_cnt, ws_next, ws_brk, ws_cnt, ws_seq, ws_if, ws_ret, ws_rof, ws_drop, ws_set, ws_own, ws_asg, wo_TN, wo_TNil, wo_TCons, wo_TTup, ws_ap, ws_setIx, ws_for, for_nil, turn_nx, turn_cnt, turn_brk, turn_ret, turn_rof, wm_lc, end_ret, end_nx, end_rof, end_io, ownOf_own, valOf_val, frz_val, frz_own, cOwn_own, peek_val, peek_own, by_val, by_own, canSet_none, canSet_val, canSet_own, lstOf_list,
  List.getElem?_cons_zero, List.getElem?_cons_succ, List.set_cons_zero, List.set_cons_succ, List.length_cons, List.length_nil, wo_ite, wo_bind, ↓reduceIte, and_true, true_and, and_self, Bool.false_eq_true, Bool.not_true, Bool.not_false, decide_eq_true_eq, decide_true, decide_false, oneInt_int, twoInts_int,
  add_ii, add_ll, add_tt, add_ss, sub_ii, mul_ii, mulS_ii, mod_ii, fdiv_ii, neg_i, le_ii, gt_ii, ge_ii, eqT_ii, eqT_ss, eqT_bb, eqT_nn, ltT_ii, ltT_ss, wo_eqD, wo_neD, wo_ltD, wo_inD, wo_ninD, is_n, isnt_n, is_bb, isnt_bb, isN, bOf_b, iOf_i, tru_b, tru_n, tru_i, tru_l, tru_t, seq_l, seq_t, tup_l, tup_t, lst_l, lst_t, len_l, len_t, int_i, int_b, abs_i, max_ii, min_ii, ix_li, ix_ti, cut_l, cut_t, flat_i, flat_b, flat_s, ix0, ix1, ix2, mkTup, mkLst,
  wm_reve, rev_l, rev_t, wm_opBL, repr_l, sort_l, sum_l, wm_enum, enum_l, enum_t, enumL_nil, wm_dic, wm_kvn, wm_kvc, seq_s, mulT_si, len_s, ord_c, str_i, ty_d, k_lb, k_li, k_ls, k_tb, k_ti, k_ts, k_db, k_di, k_ds, k_lt, k_tl,
  isi_1, ty_n, ty_b, ty_i, ty_s, ty_l, ty_t, k_nb, k_bb, k_ib, k_sb, k_ni, k_bi, k_ii, k_si, k_ns, k_bs, k_is, k_ss, k_ll, k_tt,
  Int.reduceNeg, Int.reducePow, Int.reduceLT, Int.reduceLE, Int.reduceAdd, Int.reduceSub, Int.reduceMul, Int.reduceToNat, Nat.reduceAdd, Nat.reduceLeDiff, Nat.reduceEqDiff, Int.reduceEq, reduceCtorEq, h2]
    refine wo_cell (Int.natCast_nonneg i) fun c => ?_
    refine wo_start fun s => ?_
    simp only [backE, wipeE, wo_some, wo_none, wm_c, wm_var, wm_frz, wm_bin, wm_un, wm_tst, wm_tru, wm_truB, wm_chain, wm_and, wm_or, wm_not, wm_andV, wm_orV, wm_notV, wm_ifE, wm_nil, wm_cons, wm_app, wm_noP, wm_part, wm_sl, wm_pk, wm_io, wm_ix, wm_inB, wm_true, wm_seq, wm_rng1, wm_rng2,
  then_nx, then_ret, then_rof, then_brk, then_cnt, ws_next, ws_brk, ws_cnt, ws_seq, ws_if, ws_ret, ws_rof, ws_drop, ws_set, ws_own, ws_asg, wo_TN, wo_TNil, wo_TCons, wo_TTup, ws_ap, ws_setIx, ws_for, for_nil, turn_nx, turn_cnt, turn_brk, turn_ret, turn_rof, wm_lc, end_ret, end_nx, end_rof, end_io, ownOf_own, valOf_val, frz_val, frz_own, cOwn_own, peek_val, peek_own, by_val, by_own, canSet_none, canSet_val, canSet_own, lstOf_list,
  List.getElem?_cons_zero, List.getElem?_cons_succ, List.set_cons_zero, List.set_cons_succ, List.length_cons, List.length_nil, wo_ite, wo_bind, ↓reduceIte, and_true, true_and, and_self, Bool.false_eq_true, Bool.not_true, Bool.not_false, decide_eq_true_eq, decide_true, decide_false, oneInt_int, twoInts_int,
  add_ii, add_ll, add_tt, add_ss, sub_ii, mul_ii, mulS_ii, mod_ii, fdiv_ii, neg_i, le_ii, gt_ii, ge_ii, eqT_ii, eqT_ss, eqT_bb, eqT_nn, ltT_ii, ltT_ss, wo_eqD, wo_neD, wo_ltD, wo_inD, wo_ninD, is_n, isnt_n, is_bb, isnt_bb, isN, bOf_b, iOf_i, tru_b, tru_n, tru_i, tru_l, tru_t, seq_l, seq_t, tup_l, tup_t, lst_l, lst_t, len_l, len_t, int_i, int_b, abs_i, max_ii, min_ii, ix_li, ix_ti, cut_l, cut_t, flat_i, flat_b, flat_s, ix0, ix1, ix2, mkTup, mkLst,
  wm_reve, rev_l, rev_t, wm_opBL, repr_l, sort_l, sum_l, wm_enum, enum_l, enum_t, enumL_nil, wm_dic, wm_kvn, wm_kvc, seq_s, mulT_si, len_s, ord_c, str_i, ty_d, k_lb, k_li, k_ls, k_tb, k_ti, k_ts, k_db, k_di, k_ds, k_lt, k_tl,
  isi_1, ty_n, ty_b, ty_i, ty_s, ty_l, ty_t, k_nb, k_bb, k_ib, k_sb, k_ni, k_bi, k_ii, k_si, k_ns, k_bs, k_is, k_ss, k_ll, k_tt,
  Int.reduceNeg, Int.reducePow, Int.reduceLT, Int.reduceLE, Int.reduceAdd, Int.reduceSub, Int.reduceMul, Int.reduceToNat, Nat.reduceAdd, Nat.reduceLeDiff, Nat.reduceEqDiff, Int.reduceEq, reduceCtorEq, h3, sp_digit]
    refine wo_ix (by omega) (by simp only [List.length_cons, List.length_nil]; omega) fun y hy => ?_
    obtain ⟨w, rfl, hw⟩ : ∃ w, y = .str w ∧ seven w := by
      simp only [List.mem_cons, List.not_mem_nil, or_false] at hy
      rcases hy with rfl | rfl | rfl | rfl | rfl | rfl | rfl
      · exact ⟨_, rfl, .inl rfl⟩
      · exact ⟨_, rfl, .inr (.inl rfl)⟩
      · exact ⟨_, rfl, .inr (.inr (.inl rfl))⟩
      · exact ⟨_, rfl, .inr (.inr (.inr (.inl rfl)))⟩
      · exact ⟨_, rfl, .inr (.inr (.inr (.inr (.inl rfl))))⟩
      · exact ⟨_, rfl, .inr (.inr (.inr (.inr (.inr (.inl rfl)))))⟩
      · exact ⟨_, rfl, .inr (.inr (.inr (.inr (.inr (.inr rfl)))))⟩
    simp only [backE, wipeE, wo_some, wo_none, wm_c, wm_var, wm_frz, wm_bin, wm_un, wm_tst, wm_tru, wm_truB, wm_chain, wm_and, wm_or, wm_not, wm_andV, wm_orV, wm_notV, wm_ifE, wm_nil, wm_cons, wm_app, wm_noP, wm_part, wm_sl, wm_pk, wm_io, wm_ix, wm_inB, wm_true, wm_seq, wm_rng1, wm_rng2,
  then_nx, then_ret, then_rof, then_brk, then_cnt, ws_next, ws_brk, ws_cnt, ws_seq, ws_if, ws_ret, ws_rof, ws_drop, ws_set, ws_own, ws_asg, wo_TN, wo_TNil, wo_TCons, wo_TTup, ws_ap, ws_setIx, ws_for, for_nil, turn_nx, turn_cnt, turn_brk, turn_ret, turn_rof, wm_lc, end_ret, end_nx, end_rof, end_io, ownOf_own, valOf_val, frz_val, frz_own, cOwn_own, peek_val, peek_own, by_val, by_own, canSet_none, canSet_val, canSet_own, lstOf_list,
  List.getElem?_cons_zero, List.getElem?_cons_succ, List.set_cons_zero, List.set_cons_succ, List.length_cons, List.length_nil, wo_ite, wo_bind, ↓reduceIte, and_true, true_and, and_self, Bool.false_eq_true, Bool.not_true, Bool.not_false, decide_eq_true_eq, decide_true, decide_false, oneInt_int, twoInts_int,
  add_ii, add_ll, add_tt, add_ss, sub_ii, mul_ii, mulS_ii, mod_ii, fdiv_ii, neg_i, le_ii, gt_ii, ge_ii, eqT_ii, eqT_ss, eqT_bb, eqT_nn, ltT_ii, ltT_ss, wo_eqD, wo_neD, wo_ltD, wo_inD, wo_ninD, is_n, isnt_n, is_bb, isnt_bb, isN, bOf_b, iOf_i, tru_b, tru_n, tru_i, tru_l, tru_t, seq_l, seq_t, tup_l, tup_t, lst_l, lst_t, len_l, len_t, int_i, int_b, abs_i, max_ii, min_ii, ix_li, ix_ti, cut_l, cut_t, flat_i, flat_b, flat_s, ix0, ix1, ix2, mkTup, mkLst,
  wm_reve, rev_l, rev_t, wm_opBL, repr_l, sort_l, sum_l, wm_enum, enum_l, enum_t, enumL_nil, wm_dic, wm_kvn, wm_kvc, seq_s, mulT_si, len_s, ord_c, str_i, ty_d, k_lb, k_li, k_ls, k_tb, k_ti, k_ts, k_db, k_di, k_ds, k_lt, k_tl,
  isi_1, ty_n, ty_b, ty_i, ty_s, ty_l, ty_t, k_nb, k_bb, k_ib, k_sb, k_ni, k_bi, k_ii, k_si, k_ns, k_bs, k_is, k_ss, k_ll, k_tt,
  Int.reduceNeg, Int.reducePow, Int.reduceLT, Int.reduceLE, Int.reduceAdd, Int.reduceSub, Int.reduceMul, Int.reduceToNat, Nat.reduceAdd, Nat.reduceLeDiff, Nat.reduceEqDiff, Int.reduceEq, reduceCtorEq, h4, h5, in_sm w]
    have hw1 : (w = "sum" ∨ w = "mean") ∨ ¬ (w = "sum" ∨ w = "mean") := Classical.em _
    by_cases hsm : (decide (w = "sum") || decide (w = "mean")) = true
    case' pos =>
      rw [if_neg (by rw [hsm]; decide)]
      obtain ⟨k, hk0⟩ : ∃ k : Str, k = "whole" := ⟨_, rfl⟩
      have hkd : kd k := .inr (.inl hk0)
      have hkw : (w = "sum" ∨ w = "mean") → k = "whole" := fun _ => hk0
      rw [← hk0]
      generalize s / 7 = st
    case' neg =>
      rw [if_pos (by rw [Bool.eq_false_iff.mpr hsm]; decide)]
      refine wo_ix (by omega) (by simp only [List.length_cons, List.length_nil]; omega) fun y hy => ?_
      obtain ⟨k, rfl, hkd⟩ := kinds_ok hy
      have hkw : (w = "sum" ∨ w = "mean") → k = "whole" := fun z => absurd (by rcases z with z | z <;> simp [z]) hsm
      generalize s / 7 / 3 = st
    all_goals
      try simp only [backE, wipeE, wo_some, wo_none, wm_c, wm_var, wm_frz, wm_bin, wm_un, wm_tst, wm_tru, wm_truB, wm_chain, wm_and, wm_or, wm_not, wm_andV, wm_orV, wm_notV, wm_ifE, wm_nil, wm_cons, wm_app, wm_noP, wm_part, wm_sl, wm_pk, wm_io, wm_ix, wm_inB, wm_true, wm_seq, wm_rng1, wm_rng2,
  then_nx, then_ret, then_rof, then_brk, then_cnt, ws_next, ws_brk, ws_cnt, ws_seq, ws_if, ws_ret, ws_rof, ws_drop, ws_set, ws_own, ws_asg, wo_TN, wo_TNil, wo_TCons, wo_TTup, ws_ap, ws_setIx, ws_for, for_nil, turn_nx, turn_cnt, turn_brk, turn_ret, turn_rof, wm_lc, end_ret, end_nx, end_rof, end_io, ownOf_own, valOf_val, frz_val, frz_own, cOwn_own, peek_val, peek_own, by_val, by_own, canSet_none, canSet_val, canSet_own, lstOf_list,
  List.getElem?_cons_zero, List.getElem?_cons_succ, List.set_cons_zero, List.set_cons_succ, List.length_cons, List.length_nil, wo_ite, wo_bind, ↓reduceIte, and_true, true_and, and_self, Bool.false_eq_true, Bool.not_true, Bool.not_false, decide_eq_true_eq, decide_true, decide_false, oneInt_int, twoInts_int,
  add_ii, add_ll, add_tt, add_ss, sub_ii, mul_ii, mulS_ii, mod_ii, fdiv_ii, neg_i, le_ii, gt_ii, ge_ii, eqT_ii, eqT_ss, eqT_bb, eqT_nn, ltT_ii, ltT_ss, wo_eqD, wo_neD, wo_ltD, wo_inD, wo_ninD, is_n, isnt_n, is_bb, isnt_bb, isN, bOf_b, iOf_i, tru_b, tru_n, tru_i, tru_l, tru_t, seq_l, seq_t, tup_l, tup_t, lst_l, lst_t, len_l, len_t, int_i, int_b, abs_i, max_ii, min_ii, ix_li, ix_ti, cut_l, cut_t, flat_i, flat_b, flat_s, ix0, ix1, ix2, mkTup, mkLst,
  wm_reve, rev_l, rev_t, wm_opBL, repr_l, sort_l, sum_l, wm_enum, enum_l, enum_t, enumL_nil, wm_dic, wm_kvn, wm_kvc, seq_s, mulT_si, len_s, ord_c, str_i, ty_d, k_lb, k_li, k_ls, k_tb, k_ti, k_ts, k_db, k_di, k_ds, k_lt, k_tl,
  isi_1, ty_n, ty_b, ty_i, ty_s, ty_l, ty_t, k_nb, k_bb, k_ib, k_sb, k_ni, k_bi, k_ii, k_si, k_ns, k_bs, k_is, k_ss, k_ll, k_tt,
  Int.reduceNeg, Int.reducePow, Int.reduceLT, Int.reduceLE, Int.reduceAdd, Int.reduceSub, Int.reduceMul, Int.reduceToNat, Nat.reduceAdd, Nat.reduceLeDiff, Nat.reduceEqDiff, Int.reduceEq, reduceCtorEq, h6]
      obtain ⟨j, hj, hj6⟩ := modN st (show (0 : Int) < 6 by decide)
      have hj' : 1 + st % 6 = ((1 + j : Nat) : Int) := by omega
      rw [hj', if_pos (small_nat (by omega)), Int.toNat_natCast]
      refine ws_forall (fun p ρ => ∃ (n' : Int) (vs : List (D × Int)) (o7 : Option Cell), canSet (some o7) = some () ∧ ρ = [some (.val (.list (ns.map PyData.int))), some (.val (.list [.str "count", .str "sum", .str "least", .str "most", .str "mean", .str "first", .str "last"])), some (.val (.int i)), some (.own false (.list [.int n'])), some (.val (.str w)), some (.val (.str k)), some (.own false (.list (vs.map pvD))), o7, o8, o9, o10, none] ∧ vs.length = p.length ∧ gvw vs ∧ ∀ q ∈ vs, tyB k q.1 = true) ⟨_, [], o7, h7, rfl, rfl, (fun q hq => by cases hq), (fun q hq => by cases hq)⟩ ?_ ?_
      · rintro p' d' r' ρ e' ⟨n', vs, o7', h7', rfl, hvl, hvg, hvt⟩
        have hpl : p'.length + 1 ≤ 1 + j := by
          have := congrArg List.length e'
          rw [rng_len] at this
          simp at this
          omega
        obtain ⟨i', rfl, _⟩ := rng_mem d' (by rw [e']; simp)
        simp only [backE, wipeE, wo_some, wo_none, wm_c, wm_var, wm_frz, wm_bin, wm_un, wm_tst, wm_tru, wm_truB, wm_chain, wm_and, wm_or, wm_not, wm_andV, wm_orV, wm_notV, wm_ifE, wm_nil, wm_cons, wm_app, wm_noP, wm_part, wm_sl, wm_pk, wm_io, wm_ix, wm_inB, wm_true, wm_seq, wm_rng1, wm_rng2,
  then_nx, then_ret, then_rof, then_brk, then_cnt, ws_next, ws_brk, ws_cnt, ws_seq, ws_if, ws_ret, ws_rof, ws_drop, ws_set, ws_own, ws_asg, wo_TN, wo_TNil, wo_TCons, wo_TTup, ws_ap, ws_setIx, ws_for, for_nil, turn_nx, turn_cnt, turn_brk, turn_ret, turn_rof, wm_lc, end_ret, end_nx, end_rof, end_io, ownOf_own, valOf_val, frz_val, frz_own, cOwn_own, peek_val, peek_own, by_val, by_own, canSet_none, canSet_val, canSet_own, lstOf_list,
  List.getElem?_cons_zero, List.getElem?_cons_succ, List.set_cons_zero, List.set_cons_succ, List.length_cons, List.length_nil, wo_ite, wo_bind, ↓reduceIte, and_true, true_and, and_self, Bool.false_eq_true, Bool.not_true, Bool.not_false, decide_eq_true_eq, decide_true, decide_false, oneInt_int, twoInts_int,
  add_ii, add_ll, add_tt, add_ss, sub_ii, mul_ii, mulS_ii, mod_ii, fdiv_ii, neg_i, le_ii, gt_ii, ge_ii, eqT_ii, eqT_ss, eqT_bb, eqT_nn, ltT_ii, ltT_ss, wo_eqD, wo_neD, wo_ltD, wo_inD, wo_ninD, is_n, isnt_n, is_bb, isnt_bb, isN, bOf_b, iOf_i, tru_b, tru_n, tru_i, tru_l, tru_t, seq_l, seq_t, tup_l, tup_t, lst_l, lst_t, len_l, len_t, int_i, int_b, abs_i, max_ii, min_ii, ix_li, ix_ti, cut_l, cut_t, flat_i, flat_b, flat_s, ix0, ix1, ix2, mkTup, mkLst,
  wm_reve, rev_l, rev_t, wm_opBL, repr_l, sort_l, sum_l, wm_enum, enum_l, enum_t, enumL_nil, wm_dic, wm_kvn, wm_kvc, seq_s, mulT_si, len_s, ord_c, str_i, ty_d, k_lb, k_li, k_ls, k_tb, k_ti, k_ts, k_db, k_di, k_ds, k_lt, k_tl,
  isi_1, ty_n, ty_b, ty_i, ty_s, ty_l, ty_t, k_nb, k_bb, k_ib, k_sb, k_ni, k_bi, k_ii, k_si, k_ns, k_bs, k_is, k_ss, k_ll, k_tt,
  Int.reduceNeg, Int.reducePow, Int.reduceLT, Int.reduceLE, Int.reduceAdd, Int.reduceSub, Int.reduceMul, Int.reduceToNat, Nat.reduceAdd, Nat.reduceLeDiff, Nat.reduceEqDiff, Int.reduceEq, reduceCtorEq, h7']
        refine wo_valueT fun d n2 gd htd hdv => ?_
        simp only [backE, wipeE, wo_some, wo_none, wm_c, wm_var, wm_frz, wm_bin, wm_un, wm_tst, wm_tru, wm_truB, wm_chain, wm_and, wm_or, wm_not, wm_andV, wm_orV, wm_notV, wm_ifE, wm_nil, wm_cons, wm_app, wm_noP, wm_part, wm_sl, wm_pk, wm_io, wm_ix, wm_inB, wm_true, wm_seq, wm_rng1, wm_rng2,
  then_nx, then_ret, then_rof, then_brk, then_cnt, ws_next, ws_brk, ws_cnt, ws_seq, ws_if, ws_ret, ws_rof, ws_drop, ws_set, ws_own, ws_asg, wo_TN, wo_TNil, wo_TCons, wo_TTup, ws_ap, ws_setIx, ws_for, for_nil, turn_nx, turn_cnt, turn_brk, turn_ret, turn_rof, wm_lc, end_ret, end_nx, end_rof, end_io, ownOf_own, valOf_val, frz_val, frz_own, cOwn_own, peek_val, peek_own, by_val, by_own, canSet_none, canSet_val, canSet_own, lstOf_list,
  List.getElem?_cons_zero, List.getElem?_cons_succ, List.set_cons_zero, List.set_cons_succ, List.length_cons, List.length_nil, wo_ite, wo_bind, ↓reduceIte, and_true, true_and, and_self, Bool.false_eq_true, Bool.not_true, Bool.not_false, decide_eq_true_eq, decide_true, decide_false, oneInt_int, twoInts_int,
  add_ii, add_ll, add_tt, add_ss, sub_ii, mul_ii, mulS_ii, mod_ii, fdiv_ii, neg_i, le_ii, gt_ii, ge_ii, eqT_ii, eqT_ss, eqT_bb, eqT_nn, ltT_ii, ltT_ss, wo_eqD, wo_neD, wo_ltD, wo_inD, wo_ninD, is_n, isnt_n, is_bb, isnt_bb, isN, bOf_b, iOf_i, tru_b, tru_n, tru_i, tru_l, tru_t, seq_l, seq_t, tup_l, tup_t, lst_l, lst_t, len_l, len_t, int_i, int_b, abs_i, max_ii, min_ii, ix_li, ix_ti, cut_l, cut_t, flat_i, flat_b, flat_s, ix0, ix1, ix2, mkTup, mkLst,
  wm_reve, rev_l, rev_t, wm_opBL, repr_l, sort_l, sum_l, wm_enum, enum_l, enum_t, enumL_nil, wm_dic, wm_kvn, wm_kvc, seq_s, mulT_si, len_s, ord_c, str_i, ty_d, k_lb, k_li, k_ls, k_tb, k_ti, k_ts, k_db, k_di, k_ds, k_lt, k_tl,
  isi_1, ty_n, ty_b, ty_i, ty_s, ty_l, ty_t, k_nb, k_bb, k_ib, k_sb, k_ni, k_bi, k_ii, k_si, k_ns, k_bs, k_is, k_ss, k_ll, k_tt,
  Int.reduceNeg, Int.reducePow, Int.reduceLT, Int.reduceLE, Int.reduceAdd, Int.reduceSub, Int.reduceMul, Int.reduceToNat, Nat.reduceAdd, Nat.reduceLeDiff, Nat.reduceEqDiff, Int.reduceEq, reduceCtorEq, sp_digit]
        refine wo_ix (Q := fun r => _) (by omega) (by simp only [List.length_cons, List.length_nil]; omega) fun y hy => ?_
        obtain ⟨wt, rfl, hwt⟩ : ∃ wt : Int, y = .int wt ∧ (1 ≤ wt ∧ wt ≤ 1000000000) := by
          simp only [List.mem_cons, List.not_mem_nil, or_false] at hy
          rcases hy with rfl | rfl | rfl | rfl
          · exact ⟨_, rfl, by decide⟩
          · exact ⟨_, rfl, by decide⟩
          · exact ⟨_, rfl, by decide⟩
          · exact ⟨_, rfl, by decide⟩
        simp only [backE, wipeE, wo_some, wo_none, wm_c, wm_var, wm_frz, wm_bin, wm_un, wm_tst, wm_tru, wm_truB, wm_chain, wm_and, wm_or, wm_not, wm_andV, wm_orV, wm_notV, wm_ifE, wm_nil, wm_cons, wm_app, wm_noP, wm_part, wm_sl, wm_pk, wm_io, wm_ix, wm_inB, wm_true, wm_seq, wm_rng1, wm_rng2,
  then_nx, then_ret, then_rof, then_brk, then_cnt, ws_next, ws_brk, ws_cnt, ws_seq, ws_if, ws_ret, ws_rof, ws_drop, ws_set, ws_own, ws_asg, wo_TN, wo_TNil, wo_TCons, wo_TTup, ws_ap, ws_setIx, ws_for, for_nil, turn_nx, turn_cnt, turn_brk, turn_ret, turn_rof, wm_lc, end_ret, end_nx, end_rof, end_io, ownOf_own, valOf_val, frz_val, frz_own, cOwn_own, peek_val, peek_own, by_val, by_own, canSet_none, canSet_val, canSet_own, lstOf_list,
  List.getElem?_cons_zero, List.getElem?_cons_succ, List.set_cons_zero, List.set_cons_succ, List.length_cons, List.length_nil, wo_ite, wo_bind, ↓reduceIte, and_true, true_and, and_self, Bool.false_eq_true, Bool.not_true, Bool.not_false, decide_eq_true_eq, decide_true, decide_false, oneInt_int, twoInts_int,
  add_ii, add_ll, add_tt, add_ss, sub_ii, mul_ii, mulS_ii, mod_ii, fdiv_ii, neg_i, le_ii, gt_ii, ge_ii, eqT_ii, eqT_ss, eqT_bb, eqT_nn, ltT_ii, ltT_ss, wo_eqD, wo_neD, wo_ltD, wo_inD, wo_ninD, is_n, isnt_n, is_bb, isnt_bb, isN, bOf_b, iOf_i, tru_b, tru_n, tru_i, tru_l, tru_t, seq_l, seq_t, tup_l, tup_t, lst_l, lst_t, len_l, len_t, int_i, int_b, abs_i, max_ii, min_ii, ix_li, ix_ti, cut_l, cut_t, flat_i, flat_b, flat_s, ix0, ix1, ix2, mkTup, mkLst,
  wm_reve, rev_l, rev_t, wm_opBL, repr_l, sort_l, sum_l, wm_enum, enum_l, enum_t, enumL_nil, wm_dic, wm_kvn, wm_kvc, seq_s, mulT_si, len_s, ord_c, str_i, ty_d, k_lb, k_li, k_ls, k_tb, k_ti, k_ts, k_db, k_di, k_ds, k_lt, k_tl,
  isi_1, ty_n, ty_b, ty_i, ty_s, ty_l, ty_t, k_nb, k_bb, k_ib, k_sb, k_ni, k_bi, k_ii, k_si, k_ns, k_bs, k_is, k_ss, k_ll, k_tt,
  Int.reduceNeg, Int.reducePow, Int.reduceLT, Int.reduceLE, Int.reduceAdd, Int.reduceSub, Int.reduceMul, Int.reduceToNat, Nat.reduceAdd, Nat.reduceLeDiff, Nat.reduceEqDiff, Int.reduceEq, reduceCtorEq, List.length_map]
        refine ⟨by omega, .inl trivial, _, vs ++ [(d, wt)], _, rfl, by rw [List.map_append]; rfl, by simp [hvl], fun q hq => ?_, fun q hq => ?_⟩
        · rcases List.mem_append.mp hq with h | h
          · exact hvg q h
          · rw [List.mem_singleton.mp h]
            exact ⟨gd, hdv, hwt⟩
        · rcases List.mem_append.mp hq with h | h
          · exact hvt q h
          · rw [List.mem_singleton.mp h]
            exact htd hkd
      · rintro ρ' ⟨n', vs, o7', h7', rfl, hvl, hvg, hvt⟩
        rw [rng_len] at hvl
        have hne : vs ≠ [] := fun z => by rw [z] at hvl; simp at hvl; omega
        have hint : (w = "sum" ∨ w = "mean") → ∀ p ∈ knownL vs, ∃ i, p.1 = .int i := fun z p hp => by
          have hkk := hkw z
          have hp1 := List.mem_filter.mp hp
          have ht := hvt p hp1.1
          have hn : isN p.1 = false := by simpa using hp1.2
          rw [hkk] at ht
          rcases gv_cases (hvg p hp1.1).1 with h | ⟨b, h⟩ | ⟨x, h⟩ | ⟨x, h⟩
          · rw [h] at hn; cases hn
          · rw [h] at ht
            exact absurd ht (show ¬ (decide (("whole" : Str) = "flag") = true) by decide)
          · exact ⟨x, h⟩
          · rw [h] at ht
            exact absurd ht (show ¬ (decide (("whole" : Str) = "text") = true) by decide)
        have hint2 : ¬ w = "count" → ¬ w = "least" → ¬ w = "most" → ¬ w = "first" → ¬ w = "last" → ∀ p ∈ knownL vs, ∃ i, p.1 = .int i := fun a1 a2 a3 a4 a5 => hint (by
          rcases hw with h | h | h | h | h | h | h
          · exact absurd h a1
          · exact .inl h
          · exact absurd h a2
          · exact absurd h a3
          · exact .inr h
          · exact absurd h a4
          · exact absurd h a5)
        have ha1 := sp_aggregate hw hvg hne (by omega) hint
        have ha2 := sp_law_agg hw hvg hne (by omega) hint2
        have hrp := repr_pv hvg (by omega)
        have hag := agg_gv (w := w) hvg
        simp only [backE, wipeE, wo_some, wo_none, wm_c, wm_var, wm_frz, wm_bin, wm_un, wm_tst, wm_tru, wm_truB, wm_chain, wm_and, wm_or, wm_not, wm_andV, wm_orV, wm_notV, wm_ifE, wm_nil, wm_cons, wm_app, wm_noP, wm_part, wm_sl, wm_pk, wm_io, wm_ix, wm_inB, wm_true, wm_seq, wm_rng1, wm_rng2,
  then_nx, then_ret, then_rof, then_brk, then_cnt, ws_next, ws_brk, ws_cnt, ws_seq, ws_if, ws_ret, ws_rof, ws_drop, ws_set, ws_own, ws_asg, wo_TN, wo_TNil, wo_TCons, wo_TTup, ws_ap, ws_setIx, ws_for, for_nil, turn_nx, turn_cnt, turn_brk, turn_ret, turn_rof, wm_lc, end_ret, end_nx, end_rof, end_io, ownOf_own, valOf_val, frz_val, frz_own, cOwn_own, peek_val, peek_own, by_val, by_own, canSet_none, canSet_val, canSet_own, lstOf_list,
  List.getElem?_cons_zero, List.getElem?_cons_succ, List.set_cons_zero, List.set_cons_succ, List.length_cons, List.length_nil, wo_ite, wo_bind, ↓reduceIte, and_true, true_and, and_self, Bool.false_eq_true, Bool.not_true, Bool.not_false, decide_eq_true_eq, decide_true, decide_false, oneInt_int, twoInts_int,
  add_ii, add_ll, add_tt, add_ss, sub_ii, mul_ii, mulS_ii, mod_ii, fdiv_ii, neg_i, le_ii, gt_ii, ge_ii, eqT_ii, eqT_ss, eqT_bb, eqT_nn, ltT_ii, ltT_ss, wo_eqD, wo_neD, wo_ltD, wo_inD, wo_ninD, is_n, isnt_n, is_bb, isnt_bb, isN, bOf_b, iOf_i, tru_b, tru_n, tru_i, tru_l, tru_t, seq_l, seq_t, tup_l, tup_t, lst_l, lst_t, len_l, len_t, int_i, int_b, abs_i, max_ii, min_ii, ix_li, ix_ti, cut_l, cut_t, flat_i, flat_b, flat_s, ix0, ix1, ix2, mkTup, mkLst,
  wm_reve, rev_l, rev_t, wm_opBL, repr_l, sort_l, sum_l, wm_enum, enum_l, enum_t, enumL_nil, wm_dic, wm_kvn, wm_kvc, seq_s, mulT_si, len_s, ord_c, str_i, ty_d, k_lb, k_li, k_ls, k_tb, k_ti, k_ts, k_db, k_di, k_ds, k_lt, k_tl,
  isi_1, ty_n, ty_b, ty_i, ty_s, ty_l, ty_t, k_nb, k_bb, k_ib, k_sb, k_ni, k_bi, k_ii, k_si, k_ns, k_bs, k_is, k_ss, k_ll, k_tt,
  Int.reduceNeg, Int.reducePow, Int.reduceLT, Int.reduceLE, Int.reduceAdd, Int.reduceSub, Int.reduceMul, Int.reduceToNat, Nat.reduceAdd, Nat.reduceLeDiff, Nat.reduceEqDiff, Int.reduceEq, reduceCtorEq, h8, h9, h10, hrp, ha1, ha2, sp_rank hag, sp_before hag hag, ltV_irr hag]
        have eV : (vs.map fun p => pvD (.int 0, p.2)) = (vs.map fun p => ((.int 0 : D), p.2)).map pvD := by rw [List.map_map]; rfl
        have hv' : gvw (vs.map fun p => ((.int 0 : D), p.2)) := fun q hq => by
          obtain ⟨p, hp, rfl⟩ := List.mem_map.mp hq
          exact ⟨gv_int 0, (show isV (.int 0) = true by decide), (hvg p hp).2.2⟩
        have hne' : (vs.map fun p => ((.int 0 : D), p.2)) ≠ [] := fun z => hne (List.map_eq_nil_iff.mp z)
        have hl' : (vs.map fun p => ((.int 0 : D), p.2)).length ≤ 100 := by rw [List.length_map]; omega
        have hb1 := sp_aggregate (w := "count") (.inl rfl) hv' hne' hl' (fun z => by rcases z with z | z <;> exact absurd z (by decide))
        have hb2 := sp_law_agg (w := "count") (.inl rfl) hv' hne' hl' (fun z => absurd rfl z)
        have hee : eqT (aggS "count" (vs.map fun p => ((.int 0 : D), p.2))) (aggS "count" (vs.map fun p => ((.int 0 : D), p.2))) = some true := by
          have e1 : aggS "count" (vs.map fun p => ((.int 0 : D), p.2)) = bndD (cntL (vs.map fun p => ((.int 0 : D), p.2))) := by
            unfold aggS
            rw [if_neg (by decide), if_neg (by decide), if_pos rfl]
          rw [e1]
          unfold bndD
          split
          · rfl
          · simp [eqT]
        refine ⟨⟨by rw [List.length_map]; omega, rfl⟩, ?_⟩
        refine lc_mapA pvD (fun p => pvD (.int 0, p.2)) _ (fun p hp => ?_) ?_
        · unfold pvD
          simp only [backE, wipeE, wo_some, wo_none, wm_c, wm_var, wm_frz, wm_bin, wm_un, wm_tst, wm_tru, wm_truB, wm_chain, wm_and, wm_or, wm_not, wm_andV, wm_orV, wm_notV, wm_ifE, wm_nil, wm_cons, wm_app, wm_noP, wm_part, wm_sl, wm_pk, wm_io, wm_ix, wm_inB, wm_true, wm_seq, wm_rng1, wm_rng2,
  then_nx, then_ret, then_rof, then_brk, then_cnt, ws_next, ws_brk, ws_cnt, ws_seq, ws_if, ws_ret, ws_rof, ws_drop, ws_set, ws_own, ws_asg, wo_TN, wo_TNil, wo_TCons, wo_TTup, ws_ap, ws_setIx, ws_for, for_nil, turn_nx, turn_cnt, turn_brk, turn_ret, turn_rof, wm_lc, end_ret, end_nx, end_rof, end_io, ownOf_own, valOf_val, frz_val, frz_own, cOwn_own, peek_val, peek_own, by_val, by_own, canSet_none, canSet_val, canSet_own, lstOf_list,
  List.getElem?_cons_zero, List.getElem?_cons_succ, List.set_cons_zero, List.set_cons_succ, List.length_cons, List.length_nil, wo_ite, wo_bind, ↓reduceIte, and_true, true_and, and_self, Bool.false_eq_true, Bool.not_true, Bool.not_false, decide_eq_true_eq, decide_true, decide_false, oneInt_int, twoInts_int,
  add_ii, add_ll, add_tt, add_ss, sub_ii, mul_ii, mulS_ii, mod_ii, fdiv_ii, neg_i, le_ii, gt_ii, ge_ii, eqT_ii, eqT_ss, eqT_bb, eqT_nn, ltT_ii, ltT_ss, wo_eqD, wo_neD, wo_ltD, wo_inD, wo_ninD, is_n, isnt_n, is_bb, isnt_bb, isN, bOf_b, iOf_i, tru_b, tru_n, tru_i, tru_l, tru_t, seq_l, seq_t, tup_l, tup_t, lst_l, lst_t, len_l, len_t, int_i, int_b, abs_i, max_ii, min_ii, ix_li, ix_ti, cut_l, cut_t, flat_i, flat_b, flat_s, ix0, ix1, ix2, mkTup, mkLst,
  wm_reve, rev_l, rev_t, wm_opBL, repr_l, sort_l, sum_l, wm_enum, enum_l, enum_t, enumL_nil, wm_dic, wm_kvn, wm_kvc, seq_s, mulT_si, len_s, ord_c, str_i, ty_d, k_lb, k_li, k_ls, k_tb, k_ti, k_ts, k_db, k_di, k_ds, k_lt, k_tl,
  isi_1, ty_n, ty_b, ty_i, ty_s, ty_l, ty_t, k_nb, k_bb, k_ib, k_sb, k_ni, k_bi, k_ii, k_si, k_ns, k_bs, k_is, k_ss, k_ll, k_tt,
  Int.reduceNeg, Int.reducePow, Int.reduceLT, Int.reduceLE, Int.reduceAdd, Int.reduceSub, Int.reduceMul, Int.reduceToNat, Nat.reduceAdd, Nat.reduceLeDiff, Nat.reduceEqDiff, Int.reduceEq, reduceCtorEq]
          all_goals rfl
        rw [eV]
        simp only [backE, wipeE, wo_some, wo_none, wm_c, wm_var, wm_frz, wm_bin, wm_un, wm_tst, wm_tru, wm_truB, wm_chain, wm_and, wm_or, wm_not, wm_andV, wm_orV, wm_notV, wm_ifE, wm_nil, wm_cons, wm_app, wm_noP, wm_part, wm_sl, wm_pk, wm_io, wm_ix, wm_inB, wm_true, wm_seq, wm_rng1, wm_rng2,
  then_nx, then_ret, then_rof, then_brk, then_cnt, ws_next, ws_brk, ws_cnt, ws_seq, ws_if, ws_ret, ws_rof, ws_drop, ws_set, ws_own, ws_asg, wo_TN, wo_TNil, wo_TCons, wo_TTup, ws_ap, ws_setIx, ws_for, for_nil, turn_nx, turn_cnt, turn_brk, turn_ret, turn_rof, wm_lc, end_ret, end_nx, end_rof, end_io, ownOf_own, valOf_val, frz_val, frz_own, cOwn_own, peek_val, peek_own, by_val, by_own, canSet_none, canSet_val, canSet_own, lstOf_list,
  List.getElem?_cons_zero, List.getElem?_cons_succ, List.set_cons_zero, List.set_cons_succ, List.length_cons, List.length_nil, wo_ite, wo_bind, ↓reduceIte, and_true, true_and, and_self, Bool.false_eq_true, Bool.not_true, Bool.not_false, decide_eq_true_eq, decide_true, decide_false, oneInt_int, twoInts_int,
  add_ii, add_ll, add_tt, add_ss, sub_ii, mul_ii, mulS_ii, mod_ii, fdiv_ii, neg_i, le_ii, gt_ii, ge_ii, eqT_ii, eqT_ss, eqT_bb, eqT_nn, ltT_ii, ltT_ss, wo_eqD, wo_neD, wo_ltD, wo_inD, wo_ninD, is_n, isnt_n, is_bb, isnt_bb, isN, bOf_b, iOf_i, tru_b, tru_n, tru_i, tru_l, tru_t, seq_l, seq_t, tup_l, tup_t, lst_l, lst_t, len_l, len_t, int_i, int_b, abs_i, max_ii, min_ii, ix_li, ix_ti, cut_l, cut_t, flat_i, flat_b, flat_s, ix0, ix1, ix2, mkTup, mkLst,
  wm_reve, rev_l, rev_t, wm_opBL, repr_l, sort_l, sum_l, wm_enum, enum_l, enum_t, enumL_nil, wm_dic, wm_kvn, wm_kvc, seq_s, mulT_si, len_s, ord_c, str_i, ty_d, k_lb, k_li, k_ls, k_tb, k_ti, k_ts, k_db, k_di, k_ds, k_lt, k_tl,
  isi_1, ty_n, ty_b, ty_i, ty_s, ty_l, ty_t, k_nb, k_bb, k_ib, k_sb, k_ni, k_bi, k_ii, k_si, k_ns, k_bs, k_is, k_ss, k_ll, k_tt,
  Int.reduceNeg, Int.reducePow, Int.reduceLT, Int.reduceLE, Int.reduceAdd, Int.reduceSub, Int.reduceMul, Int.reduceToNat, Nat.reduceAdd, Nat.reduceLeDiff, Nat.reduceEqDiff, Int.reduceEq, reduceCtorEq, hb1]
        refine ⟨⟨by rw [List.length_map]; omega, rfl⟩, ?_⟩
        refine lc_mapA pvD (fun p => pvD (.int 0, p.2)) _ (fun p hp => ?_) ?_
        · unfold pvD
          simp only [backE, wipeE, wo_some, wo_none, wm_c, wm_var, wm_frz, wm_bin, wm_un, wm_tst, wm_tru, wm_truB, wm_chain, wm_and, wm_or, wm_not, wm_andV, wm_orV, wm_notV, wm_ifE, wm_nil, wm_cons, wm_app, wm_noP, wm_part, wm_sl, wm_pk, wm_io, wm_ix, wm_inB, wm_true, wm_seq, wm_rng1, wm_rng2,
  then_nx, then_ret, then_rof, then_brk, then_cnt, ws_next, ws_brk, ws_cnt, ws_seq, ws_if, ws_ret, ws_rof, ws_drop, ws_set, ws_own, ws_asg, wo_TN, wo_TNil, wo_TCons, wo_TTup, ws_ap, ws_setIx, ws_for, for_nil, turn_nx, turn_cnt, turn_brk, turn_ret, turn_rof, wm_lc, end_ret, end_nx, end_rof, end_io, ownOf_own, valOf_val, frz_val, frz_own, cOwn_own, peek_val, peek_own, by_val, by_own, canSet_none, canSet_val, canSet_own, lstOf_list,
  List.getElem?_cons_zero, List.getElem?_cons_succ, List.set_cons_zero, List.set_cons_succ, List.length_cons, List.length_nil, wo_ite, wo_bind, ↓reduceIte, and_true, true_and, and_self, Bool.false_eq_true, Bool.not_true, Bool.not_false, decide_eq_true_eq, decide_true, decide_false, oneInt_int, twoInts_int,
  add_ii, add_ll, add_tt, add_ss, sub_ii, mul_ii, mulS_ii, mod_ii, fdiv_ii, neg_i, le_ii, gt_ii, ge_ii, eqT_ii, eqT_ss, eqT_bb, eqT_nn, ltT_ii, ltT_ss, wo_eqD, wo_neD, wo_ltD, wo_inD, wo_ninD, is_n, isnt_n, is_bb, isnt_bb, isN, bOf_b, iOf_i, tru_b, tru_n, tru_i, tru_l, tru_t, seq_l, seq_t, tup_l, tup_t, lst_l, lst_t, len_l, len_t, int_i, int_b, abs_i, max_ii, min_ii, ix_li, ix_ti, cut_l, cut_t, flat_i, flat_b, flat_s, ix0, ix1, ix2, mkTup, mkLst,
  wm_reve, rev_l, rev_t, wm_opBL, repr_l, sort_l, sum_l, wm_enum, enum_l, enum_t, enumL_nil, wm_dic, wm_kvn, wm_kvc, seq_s, mulT_si, len_s, ord_c, str_i, ty_d, k_lb, k_li, k_ls, k_tb, k_ti, k_ts, k_db, k_di, k_ds, k_lt, k_tl,
  isi_1, ty_n, ty_b, ty_i, ty_s, ty_l, ty_t, k_nb, k_bb, k_ib, k_sb, k_ni, k_bi, k_ii, k_si, k_ns, k_bs, k_is, k_ss, k_ll, k_tt,
  Int.reduceNeg, Int.reducePow, Int.reduceLT, Int.reduceLE, Int.reduceAdd, Int.reduceSub, Int.reduceMul, Int.reduceToNat, Nat.reduceAdd, Nat.reduceLeDiff, Nat.reduceEqDiff, Int.reduceEq, reduceCtorEq]
          all_goals rfl
        rw [eV]
        simp only [backE, wipeE, wo_some, wo_none, wm_c, wm_var, wm_frz, wm_bin, wm_un, wm_tst, wm_tru, wm_truB, wm_chain, wm_and, wm_or, wm_not, wm_andV, wm_orV, wm_notV, wm_ifE, wm_nil, wm_cons, wm_app, wm_noP, wm_part, wm_sl, wm_pk, wm_io, wm_ix, wm_inB, wm_true, wm_seq, wm_rng1, wm_rng2,
  then_nx, then_ret, then_rof, then_brk, then_cnt, ws_next, ws_brk, ws_cnt, ws_seq, ws_if, ws_ret, ws_rof, ws_drop, ws_set, ws_own, ws_asg, wo_TN, wo_TNil, wo_TCons, wo_TTup, ws_ap, ws_setIx, ws_for, for_nil, turn_nx, turn_cnt, turn_brk, turn_ret, turn_rof, wm_lc, end_ret, end_nx, end_rof, end_io, ownOf_own, valOf_val, frz_val, frz_own, cOwn_own, peek_val, peek_own, by_val, by_own, canSet_none, canSet_val, canSet_own, lstOf_list,
  List.getElem?_cons_zero, List.getElem?_cons_succ, List.set_cons_zero, List.set_cons_succ, List.length_cons, List.length_nil, wo_ite, wo_bind, ↓reduceIte, and_true, true_and, and_self, Bool.false_eq_true, Bool.not_true, Bool.not_false, decide_eq_true_eq, decide_true, decide_false, oneInt_int, twoInts_int,
  add_ii, add_ll, add_tt, add_ss, sub_ii, mul_ii, mulS_ii, mod_ii, fdiv_ii, neg_i, le_ii, gt_ii, ge_ii, eqT_ii, eqT_ss, eqT_bb, eqT_nn, ltT_ii, ltT_ss, wo_eqD, wo_neD, wo_ltD, wo_inD, wo_ninD, is_n, isnt_n, is_bb, isnt_bb, isN, bOf_b, iOf_i, tru_b, tru_n, tru_i, tru_l, tru_t, seq_l, seq_t, tup_l, tup_t, lst_l, lst_t, len_l, len_t, int_i, int_b, abs_i, max_ii, min_ii, ix_li, ix_ti, cut_l, cut_t, flat_i, flat_b, flat_s, ix0, ix1, ix2, mkTup, mkLst,
  wm_reve, rev_l, rev_t, wm_opBL, repr_l, sort_l, sum_l, wm_enum, enum_l, enum_t, enumL_nil, wm_dic, wm_kvn, wm_kvc, seq_s, mulT_si, len_s, ord_c, str_i, ty_d, k_lb, k_li, k_ls, k_tb, k_ti, k_ts, k_db, k_di, k_ds, k_lt, k_tl,
  isi_1, ty_n, ty_b, ty_i, ty_s, ty_l, ty_t, k_nb, k_bb, k_ib, k_sb, k_ni, k_bi, k_ii, k_si, k_ns, k_bs, k_is, k_ss, k_ll, k_tt,
  Int.reduceNeg, Int.reducePow, Int.reduceLT, Int.reduceLE, Int.reduceAdd, Int.reduceSub, Int.reduceMul, Int.reduceToNat, Nat.reduceAdd, Nat.reduceLeDiff, Nat.reduceEqDiff, Int.reduceEq, reduceCtorEq, hb2, hee]
        exact ⟨.inl trivial, _, _, _, _, _, _, _, _, _, ⟨rfl, rfl, rfl, rfl, rfl, h7', rfl, rfl, rfl⟩, rfl⟩
  · rintro ρ' ⟨_, _, _, _, _, _, _, _, _, _, rfl⟩
    simp only [backE, wipeE, wo_some, wo_none, wm_c, wm_var, wm_frz, wm_bin, wm_un, wm_tst, wm_tru, wm_truB, wm_chain, wm_and, wm_or, wm_not, wm_andV, wm_orV, wm_notV, wm_ifE, wm_nil, wm_cons, wm_app, wm_noP, wm_part, wm_sl, wm_pk, wm_io, wm_ix, wm_inB, wm_true, wm_seq, wm_rng1, wm_rng2,
  then_nx, then_ret, then_rof, then_brk, then_cnt, ws_next, ws_brk, ws_cnt, ws_seq, ws_if, ws_ret, ws_rof, ws_drop, ws_set, ws_own, ws_asg, wo_TN, wo_TNil, wo_TCons, wo_TTup, ws_ap, ws_setIx, ws_for, for_nil, turn_nx, turn_cnt, turn_brk, turn_ret, turn_rof, wm_lc, end_ret, end_nx, end_rof, end_io, ownOf_own, valOf_val, frz_val, frz_own, cOwn_own, peek_val, peek_own, by_val, by_own, canSet_none, canSet_val, canSet_own, lstOf_list,
  List.getElem?_cons_zero, List.getElem?_cons_succ, List.set_cons_zero, List.set_cons_succ, List.length_cons, List.length_nil, wo_ite, wo_bind, ↓reduceIte, and_true, true_and, and_self, Bool.false_eq_true, Bool.not_true, Bool.not_false, decide_eq_true_eq, decide_true, decide_false, oneInt_int, twoInts_int,
  add_ii, add_ll, add_tt, add_ss, sub_ii, mul_ii, mulS_ii, mod_ii, fdiv_ii, neg_i, le_ii, gt_ii, ge_ii, eqT_ii, eqT_ss, eqT_bb, eqT_nn, ltT_ii, ltT_ss, wo_eqD, wo_neD, wo_ltD, wo_inD, wo_ninD, is_n, isnt_n, is_bb, isnt_bb, isN, bOf_b, iOf_i, tru_b, tru_n, tru_i, tru_l, tru_t, seq_l, seq_t, tup_l, tup_t, lst_l, lst_t, len_l, len_t, int_i, int_b, abs_i, max_ii, min_ii, ix_li, ix_ti, cut_l, cut_t, flat_i, flat_b, flat_s, ix0, ix1, ix2, mkTup, mkLst,
  wm_reve, rev_l, rev_t, wm_opBL, repr_l, sort_l, sum_l, wm_enum, enum_l, enum_t, enumL_nil, wm_dic, wm_kvn, wm_kvc, seq_s, mulT_si, len_s, ord_c, str_i, ty_d, k_lb, k_li, k_ls, k_tb, k_ti, k_ts, k_db, k_di, k_ds, k_lt, k_tl,
  isi_1, ty_n, ty_b, ty_i, ty_s, ty_l, ty_t, k_nb, k_bb, k_ib, k_sb, k_ni, k_bi, k_ii, k_si, k_ns, k_bs, k_is, k_ss, k_ll, k_tt,
  Int.reduceNeg, Int.reducePow, Int.reduceLT, Int.reduceLE, Int.reduceAdd, Int.reduceSub, Int.reduceMul, Int.reduceToNat, Nat.reduceAdd, Nat.reduceLeDiff, Nat.reduceEqDiff, Int.reduceEq, reduceCtorEq]
end Lw
set_option maxHeartbeats 4000000
namespace Lw
open PySem PySem.Spec PyProof.Rows L2 Dn
theorem all_mk {l : PySem.W.OpenLaw} {w : World} {K : PySem.W.Frag} {h : Heap} {mg : Str → Option Value} {fa : Addr} (X : K.In h) (G : h.Ns mainGlobals mg) (hfa : mg "law" = some (.ref fa))
    {f0 : Addr} {oc0 kV0 dc0 pm0 cd0 ct0 : Value} {od0 an0 : Option Addr} {sl0 : Array (Option Value)}
    (a0 : PySem.W.nsIn K mainGlobals "_law_rank" = some (some (.ref f0))) (l0 : K.lookup f0 = some ⟨oc0, od0, .func (PySem.W.fnOf "_law_rank" "_law_rank" (defArgs s__law_rank) (defBody s__law_rank) (defScope s__law_rank) .none kV0 dc0 pm0 an0 cd0 ct0), sl0⟩) (c0 : PySem.W.codeIn K cd0 "_law_rank" = true) (k0 : PySem.W.keepIn K (.ref f0) = true)
    {f1 : Addr} {oc1 kV1 dc1 pm1 cd1 ct1 : Value} {od1 an1 : Option Addr} {sl1 : Array (Option Value)}
    (a1 : PySem.W.nsIn K mainGlobals "_law_before" = some (some (.ref f1))) (l1 : K.lookup f1 = some ⟨oc1, od1, .func (PySem.W.fnOf "_law_before" "_law_before" (defArgs s__law_before) (defBody s__law_before) (defScope s__law_before) .none kV1 dc1 pm1 an1 cd1 ct1), sl1⟩) (c1 : PySem.W.codeIn K cd1 "_law_before" = true) (k1 : PySem.W.keepIn K (.ref f1) = true)
    {f2 : Addr} {oc2 kV2 dc2 pm2 cd2 ct2 : Value} {od2 an2 : Option Addr} {sl2 : Array (Option Value)}
    (a2 : PySem.W.nsIn K mainGlobals "_law_aggregate" = some (some (.ref f2))) (l2 : K.lookup f2 = some ⟨oc2, od2, .func (PySem.W.fnOf "_law_aggregate" "_law_aggregate" (defArgs s__law_aggregate) (defBody s__law_aggregate) (defScope s__law_aggregate) .none kV2 dc2 pm2 an2 cd2 ct2), sl2⟩) (c2 : PySem.W.codeIn K cd2 "_law_aggregate" = true) (k2 : PySem.W.keepIn K (.ref f2) = true)
    {f3 : Addr} {oc3 kV3 dc3 pm3 cd3 ct3 : Value} {od3 an3 : Option Addr} {sl3 : Array (Option Value)}
    (a3 : PySem.W.nsIn K mainGlobals "_law_cell" = some (some (.ref f3))) (l3 : K.lookup f3 = some ⟨oc3, od3, .func (PySem.W.fnOf "_law_cell" "_law_cell" (defArgs s__law_cell) (defBody s__law_cell) (defScope s__law_cell) .none kV3 dc3 pm3 an3 cd3 ct3), sl3⟩) (c3 : PySem.W.codeIn K cd3 "_law_cell" = true) (k3 : PySem.W.keepIn K (.ref f3) = true)
    {f4 : Addr} {oc4 kV4 dc4 pm4 cd4 ct4 : Value} {od4 an4 : Option Addr} {sl4 : Array (Option Value)}
    (a4 : PySem.W.nsIn K mainGlobals "_law_digit" = some (some (.ref f4))) (l4 : K.lookup f4 = some ⟨oc4, od4, .func (PySem.W.fnOf "_law_digit" "_law_digit" (defArgs s__law_digit) (defBody s__law_digit) (defScope s__law_digit) .none kV4 dc4 pm4 an4 cd4 ct4), sl4⟩) (c4 : PySem.W.codeIn K cd4 "_law_digit" = true) (k4 : PySem.W.keepIn K (.ref f4) = true)
    {f5 : Addr} {oc5 kV5 dc5 pm5 cd5 ct5 : Value} {od5 an5 : Option Addr} {sl5 : Array (Option Value)}
    (a5 : PySem.W.nsIn K mainGlobals "_law_start" = some (some (.ref f5))) (l5 : K.lookup f5 = some ⟨oc5, od5, .func (PySem.W.fnOf "_law_start" "_law_start" (defArgs s__law_start) (defBody s__law_start) (defScope s__law_start) .none kV5 dc5 pm5 an5 cd5 ct5), sl5⟩) (c5 : PySem.W.codeIn K cd5 "_law_start" = true) (k5 : PySem.W.keepIn K (.ref f5) = true)
    {f6 : Addr} {oc6 kV6 dc6 pm6 cd6 ct6 : Value} {od6 an6 : Option Addr} {sl6 : Array (Option Value)}
    (a6 : PySem.W.nsIn K mainGlobals "_law_value" = some (some (.ref f6))) (l6 : K.lookup f6 = some ⟨oc6, od6, .func (PySem.W.fnOf "_law_value" "_law_value" (defArgs s__law_value) (defBody s__law_value) (defScope s__law_value) .none kV6 dc6 pm6 an6 cd6 ct6), sl6⟩) (c6 : PySem.W.codeIn K cd6 "_law_value" = true) (k6 : PySem.W.keepIn K (.ref f6) = true)
    {f7 : Addr} {oc7 kV7 dc7 pm7 cd7 ct7 : Value} {od7 an7 : Option Addr} {sl7 : Array (Option Value)}
    (a7 : PySem.W.nsIn K mainGlobals "bounded" = some (some (.ref f7))) (l7 : K.lookup f7 = some ⟨oc7, od7, .func (PySem.W.fnOf "bounded" "bounded" (defArgs s_bounded) (defBody s_bounded) (defScope s_bounded) .none kV7 dc7 pm7 an7 cd7 ct7), sl7⟩) (c7 : PySem.W.codeIn K cd7 "bounded" = true) (k7 : PySem.W.keepIn K (.ref f7) = true)
    {f8 : Addr} {oc8 kV8 dc8 pm8 cd8 ct8 : Value} {od8 an8 : Option Addr} {sl8 : Array (Option Value)}
    (a8 : PySem.W.nsIn K mainGlobals "value_order" = some (some (.ref f8))) (l8 : K.lookup f8 = some ⟨oc8, od8, .func (PySem.W.fnOf "value_order" "value_order" (defArgs s_value_order) (defBody s_value_order) (defScope s_value_order) .none kV8 dc8 pm8 an8 cd8 ct8), sl8⟩) (c8 : PySem.W.codeIn K cd8 "value_order" = true) (k8 : PySem.W.keepIn K (.ref f8) = true)
    {f9 : Addr} {oc9 kV9 dc9 pm9 cd9 ct9 : Value} {od9 an9 : Option Addr} {sl9 : Array (Option Value)}
    (a9 : PySem.W.nsIn K mainGlobals "extreme" = some (some (.ref f9))) (l9 : K.lookup f9 = some ⟨oc9, od9, .func (PySem.W.fnOf "extreme" "extreme" (defArgs s_extreme) (defBody s_extreme) (defScope s_extreme) .none kV9 dc9 pm9 an9 cd9 ct9), sl9⟩) (c9 : PySem.W.codeIn K cd9 "extreme" = true) (k9 : PySem.W.keepIn K (.ref f9) = true)
    {f10 : Addr} {oc10 kV10 dc10 pm10 cd10 ct10 : Value} {od10 an10 : Option Addr} {sl10 : Array (Option Value)}
    (a10 : PySem.W.nsIn K mainGlobals "mean_of" = some (some (.ref f10))) (l10 : K.lookup f10 = some ⟨oc10, od10, .func (PySem.W.fnOf "mean_of" "mean_of" (defArgs s_mean_of) (defBody s_mean_of) (defScope s_mean_of) .none kV10 dc10 pm10 an10 cd10 ct10), sl10⟩) (c10 : PySem.W.codeIn K cd10 "mean_of" = true) (k10 : PySem.W.keepIn K (.ref f10) = true)
    {f11 : Addr} {oc11 kV11 dc11 pm11 cd11 ct11 : Value} {od11 an11 : Option Addr} {sl11 : Array (Option Value)}
    (a11 : PySem.W.nsIn K mainGlobals "aggregate" = some (some (.ref f11))) (l11 : K.lookup f11 = some ⟨oc11, od11, .func (PySem.W.fnOf "aggregate" "aggregate" (defArgs s_aggregate) (defBody s_aggregate) (defScope s_aggregate) .none kV11 dc11 pm11 an11 cd11 ct11), sl11⟩) (c11 : PySem.W.codeIn K cd11 "aggregate" = true) (k11 : PySem.W.keepIn K (.ref f11) = true)
    {f12 : Addr} {oc12 kV12 dc12 pm12 cd12 ct12 : Value} {od12 an12 : Option Addr} {sl12 : Array (Option Value)}
    (a12 : PySem.W.nsIn K mainGlobals "law" = some (some (.ref f12))) (l12 : K.lookup f12 = some ⟨oc12, od12, .func (PySem.W.fnOf "law" "law" (defArgs s_law) (defBody s_law) (defScope s_law) .none kV12 dc12 pm12 an12 cd12 ct12), sl12⟩) (c12 : PySem.W.codeIn K cd12 "law" = true) (k12 : PySem.W.keepIn K (.ref f12) = true)
    (z0 : PySem.W.nsIn K mainGlobals "abs" = some none)
    (z1 : PySem.W.nsIn K mainGlobals "bool" = some none)
    (z2 : PySem.W.nsIn K mainGlobals "int" = some none)
    (z3 : PySem.W.nsIn K mainGlobals "isinstance" = some none)
    (z4 : PySem.W.nsIn K mainGlobals "len" = some none)
    (z5 : PySem.W.nsIn K mainGlobals "list" = some none)
    (z6 : PySem.W.nsIn K mainGlobals "max" = some none)
    (z7 : PySem.W.nsIn K mainGlobals "min" = some none)
    (z8 : PySem.W.nsIn K mainGlobals "range" = some none)
    (z9 : PySem.W.nsIn K mainGlobals "repr" = some none)
    (z10 : PySem.W.nsIn K mainGlobals "sorted" = some none)
    (z11 : PySem.W.nsIn K mainGlobals "str" = some none)
    (z12 : PySem.W.nsIn K mainGlobals "sum" = some none)
    (z13 : PySem.W.nsIn K mainGlobals "tuple" = some none)
    {tk0 : Tok} (y0 : PySem.W.nsIn K mainGlobals "MOST_NUMBER" = some (some (.int 1000000000 tk0)))
    : ∃ fd : FuncData, Fun K "law" "law" s_law fa fd ∧ (∀ (s : Shared) (v : Value), BindsTo s fd ⟨[v], []⟩ [("script", v)]) ∧ ∀ (base : Heap) (cdv : Value) (s : Shared) (H : Hp) (E : XK), K.In base → base.Ns mainGlobals mg → DSs (cxOf CX0 l.prog w K mg base N_law "law" (defScope s_law) fa cdv callerA [] s H E).nox (defBody s_law) g_law := by
  have e := hfa.symm.trans (PySem.W.mg_of X G a12)
  cases e
  let T : Txt K mg := ⟨_, _, fun_mk (st := s__law_rank) l0 c0 k0, PySem.W.mg_of X G a0, _, _, fun_mk (st := s__law_before) l1 c1 k1, PySem.W.mg_of X G a1, _, _, fun_mk (st := s__law_aggregate) l2 c2 k2, PySem.W.mg_of X G a2, _, _, fun_mk (st := s__law_cell) l3 c3 k3, PySem.W.mg_of X G a3, _, _, fun_mk (st := s__law_digit) l4 c4 k4, PySem.W.mg_of X G a4, _, _, fun_mk (st := s__law_start) l5 c5 k5, PySem.W.mg_of X G a5, _, _, fun_mk (st := s__law_value) l6 c6 k6, PySem.W.mg_of X G a6, _, _, fun_mk (st := s_bounded) l7 c7 k7, PySem.W.mg_of X G a7, _, _, fun_mk (st := s_value_order) l8 c8 k8, PySem.W.mg_of X G a8, _, _, fun_mk (st := s_extreme) l9 c9 k9, PySem.W.mg_of X G a9, _, _, fun_mk (st := s_mean_of) l10 c10 k10, PySem.W.mg_of X G a10, _, _, fun_mk (st := s_aggregate) l11 c11 k11, PySem.W.mg_of X G a11, _, _, fun_mk (st := s_law) l12 c12 k12, PySem.W.mg_of X G a12, PySem.W.mg_none_of X G z0, PySem.W.mg_none_of X G z1, PySem.W.mg_none_of X G z2, PySem.W.mg_none_of X G z3, PySem.W.mg_none_of X G z4, PySem.W.mg_none_of X G z5, PySem.W.mg_none_of X G z6, PySem.W.mg_none_of X G z7, PySem.W.mg_none_of X G z8, PySem.W.mg_none_of X G z9, PySem.W.mg_none_of X G z10, PySem.W.mg_none_of X G z11, PySem.W.mg_none_of X G z12, PySem.W.mg_none_of X G z13, ⟨_, PySem.W.mg_of X G y0⟩⟩
  exact ⟨T.d_law, T.F_law, fun s v => .of_eq rfl, fun base cdv s H E _ _ => ok_law T cdv s H E⟩
end Lw
open PySem PySem.W PyProof.Rows
set_option maxHeartbeats 0 in
theorem PySem.Challenge.cw_tideweir_k17_aggregates_holds : PySem.Challenge.rw_tideweir_k17_aggregates.Holds := by
  w_on; o_law; k_head; (case hw => w_witness2)
  k_fill
  refine Dn.walk_body (l := PySem.Challenge.rw_tideweir_k17_aggregates) (k := 3) (st := Lw.s_law) (N := Lw.N_law) (g := Lw.g_law) rfl rfl ⟨rfl, by decide, by decide⟩ (fun w h Y => PySem.W.kIn_of Y) Lw.sc_law ?F (fun ns h => Lw.law_true ns h)
  case F =>
    intro w mg fa h KX G hmg
    refine' Lw.all_mk KX G hmg ?a0 ?l0 ?c0 ?k0 ?a1 ?l1 ?c1 ?k1 ?a2 ?l2 ?c2 ?k2 ?a3 ?l3 ?c3 ?k3 ?a4 ?l4 ?c4 ?k4 ?a5 ?l5 ?c5 ?k5 ?a6 ?l6 ?c6 ?k6 ?a7 ?l7 ?c7 ?k7 ?a8 ?l8 ?c8 ?k8 ?a9 ?l9 ?c9 ?k9 ?a10 ?l10 ?c10 ?k10 ?a11 ?l11 ?c11 ?k11 ?a12 ?l12 ?c12 ?k12 ?z0 ?z1 ?z2 ?z3 ?z4 ?z5 ?z6 ?z7 ?z8 ?z9 ?z10 ?z11 ?z12 ?z13 ?y0
    (case a0 => k_is); (case l0 => k_is); (case c0 => k_is); (case k0 => k_is); (case a1 => k_is); (case l1 => k_is); (case c1 => k_is); (case k1 => k_is); (case a2 => k_is); (case l2 => k_is); (case c2 => k_is); (case k2 => k_is); (case a3 => k_is); (case l3 => k_is); (case c3 => k_is); (case k3 => k_is); (case a4 => k_is); (case l4 => k_is); (case c4 => k_is); (case k4 => k_is); (case a5 => k_is); (case l5 => k_is); (case c5 => k_is); (case k5 => k_is); (case a6 => k_is); (case l6 => k_is); (case c6 => k_is); (case k6 => k_is); (case a7 => k_is); (case l7 => k_is); (case c7 => k_is); (case k7 => k_is); (case a8 => k_is); (case l8 => k_is); (case c8 => k_is); (case k8 => k_is); (case a9 => k_is); (case l9 => k_is); (case c9 => k_is); (case k9 => k_is); (case a10 => k_is); (case l10 => k_is); (case c10 => k_is); (case k10 => k_is); (case a11 => k_is); (case l11 => k_is); (case c11 => k_is); (case k11 => k_is); (case a12 => k_is); (case l12 => k_is); (case c12 => k_is); (case k12 => k_is); (case z0 => k_is); (case z1 => k_is); (case z2 => k_is); (case z3 => k_is); (case z4 => k_is); (case z5 => k_is); (case z6 => k_is); (case z7 => k_is); (case z8 => k_is); (case z9 => k_is); (case z10 => k_is); (case z11 => k_is); (case z12 => k_is); (case z13 => k_is); (case y0 => k_is)

