import PyProof.Rows.All
import Wide.All
import OpenK.AllK
import Wide.FinOn
import HandS.ForMost
import HandS.ForExc
import HandS.IsInst
import HandS.Flow
import HandS.Deep
import HandS.TupAny
import HandS.ExcInit
import HandS.ExcField
import HandS.ExcIs
import HandS.TryMany
import PySem.Challenge.RW_silentlinks_k79_views_clocks
set_option Elab.async false
set_option linter.all false
set_option maxRecDepth 100000
set_option maxHeartbeats 4000000
namespace FL
open PySem PySem.Spec L2
open PyProof.Rows hiding St
/-! ### plain data, its places in an abstract heap -/
inductive Dt where
  | non | bl (b : Bool) | int (i : Int) | str (x : Str)
  | tup (l : List Dt) | lst (l : List Dt) | wls (l : List Dt)
  | ins (c : Str) (fs : List (Str × Dt))
  | dic (kvs : List (Key × Dt))
abbrev Mg := Str → Option Value
abbrev Fg := PySem.W.Frag
mutual
inductive Dr (K : Fg) (mg : Mg) (H : Hp) : V → Dt → Prop
  | non : Dr K mg H .non .non
  | bl {b : Bool} : Dr K mg H (.bl b) (.bl b)
  | int {i : Int} : Dr K mg H (.int i) (.int i)
  | str {x : Str} : PyData.strOk x = true → Dr K mg H (.str x) (.str x)
  | tup {a : Addr} {vs : List V} {ds : List Dt} : SqT K H a vs → DrAll K mg H vs ds → Dr K mg H (.ref a) (.tup ds)
  | lst {a : Addr} {vs : List V} {ds : List Dt} : H a = some (.lst vs) → DrAll K mg H vs ds → Dr K mg H (.ref a) (.lst ds)
  | wls {a : Addr} {vs : List V} {ds : List Dt} : SqL K H a vs → DrAll K mg H vs ds → Dr K mg H (.ref a) (.wls ds)
  | ins {a C dx : Addr} {c : Str} {fs : List (Str × V)} {gs : List (Str × Dt)} : mg c = some (.ref C) → H a = some (.ins C dx fs) → DrFs K mg H fs gs → Dr K mg H (.ref a) (.ins c gs)
  | dic {a : Addr} {ks : List (Key × V)} {kvs : List (Key × Dt)} : H a = some (.dK ks) → DrKs K mg H ks kvs → Dr K mg H (.ref a) (.dic kvs)
inductive DrAll (K : Fg) (mg : Mg) (H : Hp) : List V → List Dt → Prop
  | nil : DrAll K mg H [] []
  | cons {v : V} {vs : List V} {d : Dt} {ds : List Dt} : Dr K mg H v d → DrAll K mg H vs ds → DrAll K mg H (v :: vs) (d :: ds)
inductive DrFs (K : Fg) (mg : Mg) (H : Hp) : List (Str × V) → List (Str × Dt) → Prop
  | nil : DrFs K mg H [] []
  | cons {n : Str} {v : V} {vs : List (Str × V)} {d : Dt} {ds : List (Str × Dt)} : Dr K mg H v d → DrFs K mg H vs ds → DrFs K mg H ((n, v) :: vs) ((n, d) :: ds)
inductive DrKs (K : Fg) (mg : Mg) (H : Hp) : List (Key × V) → List (Key × Dt) → Prop
  | nil : DrKs K mg H [] []
  | cons {n : Key} {v : V} {vs : List (Key × V)} {d : Dt} {ds : List (Key × Dt)} : Dr K mg H v d → DrKs K mg H vs ds → DrKs K mg H ((n, v) :: vs) ((n, d) :: ds)
end
section
variable {K : Fg} {mg : Mg} {F F' H H' : Hp}
theorem Same.sqt {a : Addr} {xs : List V} (e : Same H H') (h : SqT K H a xs) : SqT K H' a xs := by
  rcases h with (h | ⟨o, h⟩) | h
  · exact .inl (.inl (e _ _ h))
  · exact .inl (.inr ⟨o, e _ _ h⟩)
  · exact .inr h
mutual
theorem Dr.mono (s : Same F F') : ∀ {d : Dt} {v : V}, Dr K mg F v d → Dr K mg F' v d
  | .non, _, h => by cases h; exact .non
  | .bl _, _, h => by cases h; exact .bl
  | .int _, _, h => by cases h; exact .int
  | .str _, _, h => by cases h with | str h1 => exact .str h1
  | .tup ds, _, h => by cases h with | tup h1 h2 => exact .tup (Same.sqt s h1) (DrAll.mono s h2)
  | .lst ds, _, h => by cases h with | lst h1 h2 => exact .lst (s _ _ h1) (DrAll.mono s h2)
  | .wls ds, _, h => by cases h with | wls h1 h2 => exact .wls (s.seq h1) (DrAll.mono s h2)
  | .ins c gs, _, h => by cases h with | ins h0 h1 h2 => exact .ins h0 (s _ _ h1) (DrFs.mono s h2)
  | .dic kvs, _, h => by cases h with | dic h1 h2 => exact .dic (s _ _ h1) (DrKs.mono s h2)
theorem DrAll.mono (s : Same F F') : ∀ {ds : List Dt} {vs : List V}, DrAll K mg F vs ds → DrAll K mg F' vs ds
  | [], _, h => by cases h; exact .nil
  | d :: ds, _, h => by cases h with | cons h1 h2 => exact .cons (Dr.mono s h1) (DrAll.mono s h2)
theorem DrFs.mono (s : Same F F') : ∀ {ds : List (Str × Dt)} {vs : List (Str × V)}, DrFs K mg F vs ds → DrFs K mg F' vs ds
  | [], _, h => by cases h; exact .nil
  | (n, d) :: ds, _, h => by cases h with | cons h1 h2 => exact .cons (Dr.mono s h1) (DrFs.mono s h2)
theorem DrKs.mono (s : Same F F') : ∀ {ds : List (Key × Dt)} {vs : List (Key × V)}, DrKs K mg F vs ds → DrKs K mg F' vs ds
  | [], _, h => by cases h; exact .nil
  | (n, d) :: ds, _, h => by cases h with | cons h1 h2 => exact .cons (Dr.mono s h1) (DrKs.mono s h2)
end
theorem DrAll.length : ∀ {vs : List V} {ds : List Dt}, DrAll K mg H vs ds → vs.length = ds.length
  | [], _, h => by cases h; rfl
  | _ :: _, _, h => by cases h with | cons h1 h2 => simp only [List.length_cons, h2.length]
theorem DrAll.get : ∀ {vs : List V} {ds : List Dt} {i : Nat} {v : V}, DrAll K mg H vs ds → vs[i]? = some v → ∃ d, ds[i]? = some d ∧ Dr K mg H v d
  | [], _, _, _, h, e => by simp at e
  | _ :: _, _, 0, _, h, e => by cases h with | cons h1 h2 => simp at e; subst e; exact ⟨_, rfl, h1⟩
  | _ :: _, _, i + 1, _, h, e => by
    cases h with
    | cons h1 h2 =>
      obtain ⟨d, q, r⟩ := DrAll.get (i := i) h2 (by simpa using e)
      exact ⟨d, by simpa using q, r⟩
theorem DrAll.getD : ∀ {vs : List V} {ds : List Dt} {i : Nat} {d : Dt}, DrAll K mg H vs ds → ds[i]? = some d → ∃ v, vs[i]? = some v ∧ Dr K mg H v d
  | _, [], _, _, h, e => by simp at e
  | _, _ :: _, 0, _, h, e => by cases h with | cons h1 h2 => simp at e; subst e; exact ⟨_, rfl, h1⟩
  | _, _ :: _, i + 1, _, h, e => by
    cases h with
    | cons h1 h2 =>
      obtain ⟨v, q, r⟩ := DrAll.getD (i := i) h2 (by simpa using e)
      exact ⟨v, by simpa using q, r⟩
theorem DrAll.append : ∀ {vs ws : List V} {ds es : List Dt}, DrAll K mg H vs ds → DrAll K mg H ws es → DrAll K mg H (vs ++ ws) (ds ++ es)
  | [], _, _, _, h, g => by cases h; exact g
  | _ :: _, _, _, _, h, g => by cases h with | cons h1 h2 => exact .cons h1 (h2.append g)
theorem DrAll.one {v : V} {d : Dt} (h : Dr K mg H v d) : DrAll K mg H [v] [d] := .cons h .nil
theorem DrAll.reverse {vs : List V} {ds : List Dt} (h : DrAll K mg H vs ds) : DrAll K mg H vs.reverse ds.reverse := by
  induction ds generalizing vs with
  | nil => cases h; exact .nil
  | cons d ds ih =>
    cases h with
    | cons h1 h2 =>
      rw [List.reverse_cons, List.reverse_cons]
      exact (ih h2).append (.one h1)
theorem DrAll.drop : ∀ (n : Nat) {vs : List V} {ds : List Dt}, DrAll K mg H vs ds → DrAll K mg H (vs.drop n) (ds.drop n)
  | 0, _, _, h => h
  | n + 1, [], _, h => by cases h; exact .nil
  | n + 1, _ :: _, _, h => by cases h with | cons h1 h2 => exact DrAll.drop n h2
theorem DrAll.take : ∀ (n : Nat) {vs : List V} {ds : List Dt}, DrAll K mg H vs ds → DrAll K mg H (vs.take n) (ds.take n)
  | 0, _, _, h => .nil
  | n + 1, [], _, h => by cases h; exact .nil
  | n + 1, _ :: _, _, h => by cases h with | cons h1 h2 => exact .cons h1 (DrAll.take n h2)
theorem DrAll.dropLast {vs : List V} {ds : List Dt} (h : DrAll K mg H vs ds) : DrAll K mg H vs.dropLast ds.dropLast := by
  rw [List.dropLast_eq_take, List.dropLast_eq_take, h.length]
  exact h.take _
theorem DrAll.set {v : V} {d : Dt} (h1 : Dr K mg H v d) : ∀ (i : Nat) {vs : List V} {ds : List Dt}, DrAll K mg H vs ds → DrAll K mg H (vs.set i v) (ds.set i d)
  | _, [], _, h => by cases h; exact .nil
  | 0, _ :: _, _, h => by cases h with | cons _ h2 => exact .cons h1 h2
  | i + 1, _ :: _, _, h => by cases h with | cons h0 h2 => exact .cons h0 (DrAll.set h1 i h2)
theorem DrAll.ints : ∀ {vs : List V} {ns : List Int}, DrAll K mg H vs (ns.map .int) → vs = ns.map V.int
  | [], [], _ => rfl
  | [], _ :: _, h => by cases h
  | _ :: _, [], h => by cases h
  | _ :: _, n :: ns, h => by
    cases h with
    | cons h1 h2 =>
      cases h1
      rw [DrAll.ints h2]
      rfl
theorem DrAll.of_ints : ∀ (ns : List Int), DrAll K mg H (ns.map V.int) (ns.map .int)
  | [] => .nil
  | n :: ns => .cons .int (DrAll.of_ints ns)
end
/-! ### what a name holds; results -/
inductive Ob where
  | lst (ds : List Dt)
  | dic (kvs : List (Key × Dt))
def Ob.frz : Ob → Dt
  | .lst ds => .lst ds
  | .dic kvs => .dic kvs
def ObAt (K : Fg) (mg : Mg) (F H : Hp) (a : Addr) : Ob → Prop
  | .lst ds => ∃ vs, H a = some (.lst vs) ∧ DrAll K mg F vs ds
  | .dic kvs => ∃ ks, H a = some (.dK ks) ∧ DrKs K mg F ks kvs
structure Er where
  cls : Str
  fs : List (Str × Dt)
inductive L where
  | non | val (d : Dt) | own (o : Ob) | exc (e : Er)
inductive R where
  | val (d : Dt) | own (o : Ob) | bor (i : Nat)
inductive Out (α : Type) where
  | ok (a : α) (ρ : List L) | er (e : Er) (ρ : List L) | bad
abbrev M (α : Type) := List L → Out α
def M.ret {α : Type} (a : α) : M α := fun ρ => .ok a ρ
def M.bnd {α β : Type} (m : M α) (f : α → M β) : M β := fun ρ => match m ρ with
  | .ok a ρ' => f a ρ'
  | .er e ρ' => .er e ρ'
  | .bad => .bad
def M.no {α : Type} : M α := fun _ => .bad
inductive Fl where
  | nx (ρ : List L) | rt (r : R) (ρ : List L) | bk (ρ : List L) | ct (ρ : List L) | er (e : Er) (ρ : List L) | bad
abbrev St' := List L → Fl
/-- the ground of a body: what stood at the entry -/
structure Bs where
  Fe : Hp
  H0 : Hp
  om : List Nat
  s0 : St
  ex : Option (Addr × Value × Option Addr)
  pr : Hp
/-- an error's class, its own dict -/
def ErAt (K : Fg) (mg : Mg) (F : Hp) (C : Value) (d : Option Addr) (e : Er) : Prop :=
  ∃ c, mg e.cls = some (.ref c) ∧ C = .ref c ∧ ((e.fs = [] ∧ d = none) ∨ ∃ dd vs, d = some dd ∧ F dd = some (.xd vs) ∧ DrFs K mg F vs e.fs)
theorem ErAt.mono {K : Fg} {mg : Mg} {F F' : Hp} {C : Value} {d : Option Addr} {e : Er} (s : Same F F') (h : ErAt K mg F C d e) : ErAt K mg F' C d e := by
  obtain ⟨c, h1, h2, h3 | ⟨dd, vs, h3, h4, h5⟩⟩ := h
  · exact ⟨c, h1, h2, .inl h3⟩
  · exact ⟨c, h1, h2, .inr ⟨dd, vs, h3, s _ _ h4, h5.mono s⟩⟩
def Bs.fr (B : Bs) (a : Addr) : Prop := B.H0 a = none ∧ B.pr a = none
def Bs.par (B : Bs) (a : Addr) : Prop := ∃ k ∈ B.om, B.s0[k]? = some (some (.ref a))
structure Rel (K : Fg) (mg : Mg) (B : Bs) (F H : Hp) (σ : St) (ρ : List L) : Prop where
  len : σ.length = ρ.length
  same0 : Same B.Fe F
  same : Same F H
  keep : ∀ b o, B.H0 b = some o → ¬ B.par b → H b = some o
  low : ∀ b o, F b = some o → B.Fe b = some o ∨ B.H0 b = none ∨ B.par b
  val : ∀ (i : Nat) (d : Dt), ρ[i]? = some (.val d) → ∃ v, σ[i]? = some (some v) ∧ Dr K mg F v d
  own : ∀ (i : Nat) (o : Ob), ρ[i]? = some (.own o) → ∃ a, σ[i]? = some (some (.ref a)) ∧ F a = none ∧ (B.H0 a = none ∨ i ∈ B.om) ∧ ObAt K mg F H a o
  sep : ∀ (i j : Nat) (a : Addr) (o o' : Ob), ρ[i]? = some (.own o) → ρ[j]? = some (.own o') → σ[i]? = some (some (.ref a)) → σ[j]? = some (some (.ref a)) → i = j
  pin : ∀ k ∈ B.om, σ[k]? = B.s0[k]?
  live : ∀ a, B.par a → ∃ u, H a = Option.some u
  exc : ∀ (i : Nat) (e : Er), ρ[i]? = some (.exc e) → ∃ a C d, B.ex = some (a, C, d) ∧ σ[i]? = some (some (.ref a)) ∧ ErAt K mg F C d e
  prot : ∀ b o, B.pr b = some o → H b = some o
  prF : ∀ b o, B.pr b = some o → F b = none
  opr : ∀ (i : Nat) (o : Ob) (a : Addr), ρ[i]? = some (.own o) → σ[i]? = some (some (.ref a)) → B.pr a = none
theorem ObAt.mono {K : Fg} {mg : Mg} {F F' H H' : Hp} {a : Addr} (s : Same F F') (h : H' a = H a) : ∀ {o : Ob}, ObAt K mg F H a o → ObAt K mg F' H' a o
  | .lst _, ⟨vs, h1, h2⟩ => ⟨vs, h.trans h1, h2.mono s⟩
  | .dic _, ⟨vs, h1, h2⟩ => ⟨vs, h.trans h1, h2.mono s⟩
theorem ObAt.some {K : Fg} {mg : Mg} {F H : Hp} {a : Addr} : ∀ {o : Ob}, ObAt K mg F H a o → ∃ u, H a = Option.some u
  | .lst _, ⟨vs, h1, h2⟩ => ⟨_, h1⟩
  | .dic _, ⟨vs, h1, h2⟩ => ⟨_, h1⟩
/-- a thing at a that is kept for good -/
theorem ObAt.frz {K : Fg} {mg : Mg} {F H : Hp} {a : Addr} {u : HO} (s : Same F (upd F a u)) (hu : H a = Option.some u) : ∀ {o : Ob}, ObAt K mg F H a o → Dr K mg (upd F a u) (.ref a) o.frz
  | .lst _, ⟨vs, h1, h2⟩ => by
    rw [hu] at h1; cases h1
    exact .lst upd_same (h2.mono s)
  | .dic _, ⟨vs, h1, h2⟩ => by
    rw [hu] at h1; cases h1
    exact .dic upd_same (h2.mono s)
theorem same_upd {F : Hp} {a : Addr} {u : HO} (h : F a = none) : Same F (upd F a u) := fun b o e => by
  rw [upd_ne (ne_of_none e h)]; exact e
section
variable {K : Fg} {mg : Mg} {B : Bs} {F H : Hp} {σ : St} {ρ : List L}
theorem Rel.fnone (r : Rel K mg B F H σ ρ) {p : Addr} (h : H p = none) : F p = none := r.same.free h
theorem Rel.new0 (r : Rel K mg B F H σ ρ) {p : Addr} (h : H p = none) : B.H0 p = none := by
  by_cases q : B.par p
  · obtain ⟨u, hu⟩ := r.live p q
    rw [hu] at h; cases h
  · cases e : B.H0 p with
    | none => rfl
    | some o => rw [r.keep p o e q] at h; cases h
theorem Rel.newF (r : Rel K mg B F H σ ρ) {p : Addr} (h : H p = none) : B.fr p := ⟨r.new0 h, by
  cases e : B.pr p with
  | none => rfl
  | some o => rw [r.prot p o e] at h; cases h⟩
theorem Rel.new_low (r : Rel K mg B F H σ ρ) {p : Addr} (h : H p = none) : B.H0 p = none ∨ B.par p := .inl (r.new0 h)
/-- a new thing for good -/
theorem Rel.alloc (r : Rel K mg B F H σ ρ) {p : Addr} (h : H p = none) (u : HO) : Rel K mg B (upd F p u) (upd H p u) σ ρ := by
  have fp := r.fnone h
  have sF := same_upd (u := u) fp
  refine ⟨r.len, r.same0.trans sF, fun b o e => ?_, fun b o e q => ?_, fun b o e => ?_, fun i d e => ?_, fun i o e => ?_, r.sep, r.pin, fun a ha => (r.live a ha).imp fun u hu => same_upd h _ _ hu, fun i e q => let ⟨a, C, d, h1, h2, h3⟩ := r.exc i e q; ⟨a, C, d, h1, h2, h3.mono sF⟩, fun b o e => same_upd h _ _ (r.prot b o e), (fun b o e => by rw [upd_ne (ne_of_none (r.prot b o e) h)]; exact r.prF b o e), r.opr⟩
  · by_cases hb : b = p
    · subst hb; rw [upd_same] at e ⊢; exact e
    · rw [upd_ne hb] at e ⊢; exact r.same b o e
  · rw [upd_ne (ne_of_none (r.keep b o e q) h)]; exact r.keep b o e q
  · by_cases hb : b = p
    · subst hb; exact .inr (r.new_low h)
    · rw [upd_ne hb] at e; exact r.low b o e
  · obtain ⟨v, e1, e2⟩ := r.val i d e
    exact ⟨v, e1, e2.mono sF⟩
  · obtain ⟨a, e1, e2, e3, e4⟩ := r.own i o e
    obtain ⟨w, hw⟩ := e4.some
    have ne : a ≠ p := ne_of_none hw h
    exact ⟨a, e1, by rw [upd_ne ne]; exact e2, e3, e4.mono sF (upd_ne ne)⟩
/-- a new thing that may change -/
theorem Rel.allocOwn (r : Rel K mg B F H σ ρ) {p : Addr} (h : H p = none) (u : HO) : Rel K mg B F (upd H p u) σ ρ := by
  have sH := same_upd (u := u) h
  refine ⟨r.len, r.same0, r.same.trans sH, fun b o e q => ?_, r.low, r.val, fun i o e => ?_, r.sep, r.pin, fun a ha => (r.live a ha).imp fun u hu => sH _ _ hu, r.exc, fun b o e => sH _ _ (r.prot b o e), r.prF, r.opr⟩
  · exact sH _ _ (r.keep b o e q)
  · obtain ⟨a, e1, e2, e3, e4⟩ := r.own i o e
    obtain ⟨w, hw⟩ := e4.some
    exact ⟨a, e1, e2, e3, e4.mono (Same.refl _) (upd_ne (ne_of_none hw h))⟩
theorem get_set {α : Type} {l : List α} {i j : Nat} {x y : α} (h : (l.set i x)[j]? = some y) : (j = i ∧ y = x) ∨ (j ≠ i ∧ l[j]? = some y) := by
  by_cases hj : j = i
  · subst hj
    by_cases hl : j < l.length
    · rw [List.getElem?_set_self hl] at h; exact .inl ⟨rfl, (Option.some.inj h).symm⟩
    · rw [List.getElem?_eq_none (by simpa using hl)] at h; cases h
  · rw [List.getElem?_set_ne (Ne.symm hj)] at h; exact .inr ⟨hj, h⟩
theorem Rel.setVal (r : Rel K mg B F H σ ρ) {i : Nat} {v : V} {d : Dt} (h : Dr K mg F v d) (hi : i ∉ B.om) : Rel K mg B F H (σ.set i (some v)) (ρ.set i (.val d)) := by
  refine ⟨by rw [List.length_set, List.length_set]; exact r.len, r.same0, r.same, r.keep, r.low, fun j e q => ?_, fun j o q => ?_, fun j k a o o' q1 q2 q3 q4 => ?_, fun k hk => ?_, r.live, fun j e q => by
    rcases get_set q with ⟨_, z⟩ | ⟨hj, q⟩
    · cases z
    · obtain ⟨a, C, d, h1, h2, h3⟩ := r.exc j e q
      exact ⟨a, C, d, h1, (by rw [List.getElem?_set_ne (Ne.symm hj)]; exact h2), h3⟩, r.prot, r.prF, fun j o a q z => by
    rcases get_set q with ⟨_, z⟩ | ⟨hj, q⟩
    · cases z
    · rw [List.getElem?_set_ne (Ne.symm hj)] at z; exact r.opr j o a q z⟩
  · rcases get_set q with ⟨rfl, z⟩ | ⟨hj, q⟩
    · cases z
      have hl : j < σ.length := by
        rw [r.len]
        have := List.getElem?_eq_some_iff.mp q
        obtain ⟨z, _⟩ := this
        rwa [List.length_set] at z
      exact ⟨v, List.getElem?_set_self hl, h⟩
    · obtain ⟨w, e1, e2⟩ := r.val j e q
      exact ⟨w, by rw [List.getElem?_set_ne (Ne.symm hj)]; exact e1, e2⟩
  · rcases get_set q with ⟨rfl, z⟩ | ⟨hj, q⟩
    · cases z
    · obtain ⟨a, e1, e2⟩ := r.own j o q
      exact ⟨a, by rw [List.getElem?_set_ne (Ne.symm hj)]; exact e1, e2⟩
  · rcases get_set q1 with ⟨rfl, z⟩ | ⟨hj, q1⟩
    · cases z
    · rcases get_set q2 with ⟨rfl, z⟩ | ⟨hk, q2⟩
      · cases z
      · rw [List.getElem?_set_ne (Ne.symm hj)] at q3
        rw [List.getElem?_set_ne (Ne.symm hk)] at q4
        exact r.sep j k a o o' q1 q2 q3 q4
  · have hne : i ≠ k := fun z => hi (z ▸ hk)
    rw [List.getElem?_set_ne hne]
    exact r.pin k hk
theorem Rel.setNon (r : Rel K mg B F H σ ρ) {i : Nat} {w : Option V} (hi : i ∉ B.om) : Rel K mg B F H (σ.set i w) (ρ.set i .non) := by
  refine ⟨by rw [List.length_set, List.length_set]; exact r.len, r.same0, r.same, r.keep, r.low, fun j e q => ?_, fun j o q => ?_, fun j k a o o' q1 q2 q3 q4 => ?_, fun k hk => ?_, r.live, fun j e q => by
    rcases get_set q with ⟨_, z⟩ | ⟨hj, q⟩
    · cases z
    · obtain ⟨a, C, d, h1, h2, h3⟩ := r.exc j e q
      exact ⟨a, C, d, h1, (by rw [List.getElem?_set_ne (Ne.symm hj)]; exact h2), h3⟩, r.prot, r.prF, fun j o a q z => by
    rcases get_set q with ⟨_, z⟩ | ⟨hj, q⟩
    · cases z
    · rw [List.getElem?_set_ne (Ne.symm hj)] at z; exact r.opr j o a q z⟩
  · rcases get_set q with ⟨rfl, z⟩ | ⟨hj, q⟩
    · cases z
    · obtain ⟨w, e1, e2⟩ := r.val j e q
      exact ⟨w, by rw [List.getElem?_set_ne (Ne.symm hj)]; exact e1, e2⟩
  · rcases get_set q with ⟨rfl, z⟩ | ⟨hj, q⟩
    · cases z
    · obtain ⟨a, e1, e2⟩ := r.own j o q
      exact ⟨a, by rw [List.getElem?_set_ne (Ne.symm hj)]; exact e1, e2⟩
  · rcases get_set q1 with ⟨rfl, z⟩ | ⟨hj, q1⟩
    · cases z
    · rcases get_set q2 with ⟨rfl, z⟩ | ⟨hk, q2⟩
      · cases z
      · rw [List.getElem?_set_ne (Ne.symm hj)] at q3
        rw [List.getElem?_set_ne (Ne.symm hk)] at q4
        exact r.sep j k a o o' q1 q2 q3 q4
  · have hne : i ≠ k := fun z => hi (z ▸ hk)
    rw [List.getElem?_set_ne hne]
    exact r.pin k hk
/-- the slot is no more looked at; σ stands -/
theorem Rel.gone (r : Rel K mg B F H σ ρ) {i : Nat} : Rel K mg B F H σ (ρ.set i .non) := by
  refine ⟨by rw [List.length_set]; exact r.len, r.same0, r.same, r.keep, r.low, fun j e q => ?_, fun j o q => ?_, fun j k a o o' q1 q2 q3 q4 => ?_, r.pin, r.live, fun j e q => by
    rcases get_set q with ⟨_, z⟩ | ⟨hj, q⟩
    · cases z
    · obtain ⟨a, C, d, h1, h2, h3⟩ := r.exc j e q
      exact ⟨a, C, d, h1, h2, h3⟩, r.prot, r.prF, fun j o a q z => by
    rcases get_set q with ⟨_, z⟩ | ⟨hj, q⟩
    · cases z
    · exact r.opr j o a q z⟩
  · rcases get_set q with ⟨rfl, z⟩ | ⟨hj, q⟩
    · cases z
    · exact r.val j e q
  · rcases get_set q with ⟨rfl, z⟩ | ⟨hj, q⟩
    · cases z
    · exact r.own j o q
  · rcases get_set q1 with ⟨rfl, z⟩ | ⟨hj, q1⟩
    · cases z
    · rcases get_set q2 with ⟨rfl, z⟩ | ⟨hk, q2⟩
      · cases z
      · exact r.sep j k a o o' q1 q2 q3 q4
theorem Rel.setOwn (r : Rel K mg B F H σ ρ) {i : Nat} {a : Addr} {o : Ob} (h : ObAt K mg F H a o) (hF : F a = none) (h0 : B.fr a) (hs : ∀ (j : Nat) (o' : Ob), ρ[j]? = some (.own o') → σ[j]? ≠ some (some (.ref a))) (hi : i ∉ B.om) :
    Rel K mg B F H (σ.set i (some (.ref a))) (ρ.set i (.own o)) := by
  refine ⟨by rw [List.length_set, List.length_set]; exact r.len, r.same0, r.same, r.keep, r.low, fun j e q => ?_, fun j o q => ?_, fun j k b o1 o2 q1 q2 q3 q4 => ?_, fun k hk => ?_, r.live, fun j e q => by
    rcases get_set q with ⟨_, z⟩ | ⟨hj, q⟩
    · cases z
    · obtain ⟨a, C, d, h1, h2, h3⟩ := r.exc j e q
      exact ⟨a, C, d, h1, (by rw [List.getElem?_set_ne (Ne.symm hj)]; exact h2), h3⟩, r.prot, r.prF, fun j o b q z => by
    rcases get_set q with ⟨hj, _⟩ | ⟨hj, q⟩
    · rcases get_set z with ⟨_, z⟩ | ⟨hj2, _⟩
      · cases z; exact h0.2
      · exact absurd hj hj2
    · rw [List.getElem?_set_ne (Ne.symm hj)] at z; exact r.opr j o b q z⟩
  · rcases get_set q with ⟨rfl, z⟩ | ⟨hj, q⟩
    · cases z
    · obtain ⟨w, e1, e2⟩ := r.val j e q
      exact ⟨w, by rw [List.getElem?_set_ne (Ne.symm hj)]; exact e1, e2⟩
  · rcases get_set q with ⟨rfl, z⟩ | ⟨hj, q⟩
    · cases z
      have hl : j < σ.length := by
        rw [r.len]
        obtain ⟨z, _⟩ := List.getElem?_eq_some_iff.mp q
        rwa [List.length_set] at z
      exact ⟨a, List.getElem?_set_self hl, hF, .inl h0.1, h⟩
    · obtain ⟨b, e1, e2⟩ := r.own j o q
      exact ⟨b, by rw [List.getElem?_set_ne (Ne.symm hj)]; exact e1, e2⟩
  · rcases get_set q1 with ⟨z0, z⟩ | ⟨hj, p1⟩
    · rcases get_set q2 with ⟨z1, z2⟩ | ⟨hk, p2⟩
      · rw [z0, z1]
      · rw [List.getElem?_set_ne (Ne.symm hk)] at q4
        rcases get_set q3 with ⟨_, z3⟩ | ⟨hj, _⟩
        · cases z3; exact absurd q4 (hs k o2 p2)
        · exact absurd z0 hj
    · rw [List.getElem?_set_ne (Ne.symm hj)] at q3
      rcases get_set q2 with ⟨z1, z2⟩ | ⟨hk, p2⟩
      · rcases get_set q4 with ⟨_, z3⟩ | ⟨hj, _⟩
        · cases z3; exact absurd q3 (hs j o1 p1)
        · exact absurd z1 hj
      · rw [List.getElem?_set_ne (Ne.symm hk)] at q4
        exact r.sep j k b o1 o2 p1 p2 q3 q4
  · have hne : i ≠ k := fun z => hi (z ▸ hk)
    rw [List.getElem?_set_ne hne]
    exact r.pin k hk
theorem Rel.ownPar (r : Rel K mg B F H σ ρ) {i : Nat} {a : Addr} (h : B.H0 a = none ∨ i ∈ B.om) (hs : σ[i]? = some (some (.ref a))) : B.H0 a = none ∨ B.par a :=
  h.imp id fun hk => ⟨i, hk, by rw [← r.pin i hk]; exact hs⟩
/-- a name's own thing is changed -/
theorem Rel.write (r : Rel K mg B F H σ ρ) {i : Nat} {a : Addr} {o o' : Ob} {u : HO} (hi : ρ[i]? = some (.own o)) (hs : σ[i]? = some (some (.ref a))) (h : ObAt K mg F (upd H a u) a o') : Rel K mg B F (upd H a u) σ (ρ.set i (.own o')) := by
  obtain ⟨a', e1, e2, e3, e4⟩ := r.own i o hi
  rw [hs] at e1; cases e1
  refine ⟨by rw [List.length_set]; exact r.len, r.same0, fun b o e => ?_, fun b o e q => ?_, r.low, fun j e q => ?_, fun j o q => ?_, fun j k b o1 o2 q1 q2 q3 q4 => ?_, r.pin, fun b hb => ?_, fun j e q => by
    rcases get_set q with ⟨_, z⟩ | ⟨hj, q⟩
    · cases z
    · exact r.exc j e q, fun b u hb => ?_, r.prF, fun j o2 b q z => ?_⟩
  · rw [upd_ne (ne_of_none e e2)]; exact r.same b o e
  · have : b ≠ a := fun z => by
      subst z
      rcases r.ownPar e3 hs with z | z
      · rw [e] at z; cases z
      · exact q z
    rw [upd_ne this]; exact r.keep b o e q
  · rcases get_set q with ⟨rfl, z⟩ | ⟨hj, q⟩
    · cases z
    · exact r.val j e q
  · rcases get_set q with ⟨rfl, z⟩ | ⟨hj, q⟩
    · cases z; exact ⟨a, hs, e2, e3, h⟩
    · obtain ⟨b, f1, f2, f3, f4⟩ := r.own j o q
      have : b ≠ a := fun z => by subst z; exact hj (r.sep j i b _ _ q hi f1 hs)
      exact ⟨b, f1, f2, f3, f4.mono (Same.refl _) (upd_ne this)⟩
  · have ex : ∀ (j : Nat) (o : Ob), (ρ.set i (.own o'))[j]? = some (.own o) → ∃ o2, ρ[j]? = some (.own o2) := fun j o q => by
      rcases get_set q with ⟨rfl, z⟩ | ⟨hj, q⟩
      · exact ⟨_, hi⟩
      · exact ⟨_, q⟩
    obtain ⟨_, g1⟩ := ex j o1 q1
    obtain ⟨_, g2⟩ := ex k o2 q2
    exact r.sep j k b _ _ g1 g2 q3 q4
  · by_cases hba : b = a
    · subst hba; exact ⟨_, upd_same⟩
    · rw [upd_ne hba]; exact r.live b hb
  · have : b ≠ a := fun z => by rw [z, r.opr i _ a hi hs] at hb; cases hb
    rw [upd_ne this]; exact r.prot b u hb
  · rcases get_set q with ⟨z1, _⟩ | ⟨hj, q⟩
    · rw [z1] at z; exact r.opr i _ b hi z
    · exact r.opr j o2 b q z
/-- a name's own thing is kept for good from now on -/
theorem Rel.freeze (r : Rel K mg B F H σ ρ) {i : Nat} {o : Ob} (hi : ρ[i]? = some (.own o)) : ∃ F' v, Same F F' ∧ σ[i]? = some (some v) ∧ Dr K mg F' v o.frz ∧ Rel K mg B F' H σ (ρ.set i (.val o.frz)) := by
  obtain ⟨a, hs, e2, e3, e4⟩ := r.own i o hi
  obtain ⟨u, hu⟩ := e4.some
  have sF := same_upd (u := u) e2
  refine ⟨upd F a u, .ref a, sF, hs, e4.frz sF hu, by rw [List.length_set]; exact r.len, r.same0.trans sF, fun b o e => ?_, r.keep, fun b o e => ?_, fun j e q => ?_, fun j o q => ?_, fun j k b o1 o2 q1 q2 q3 q4 => ?_, r.pin, r.live, fun j e q => by
    rcases get_set q with ⟨_, z⟩ | ⟨hj, q⟩
    · cases z
    · obtain ⟨a, C, d, h1, h2, h3⟩ := r.exc j e q
      exact ⟨a, C, d, h1, h2, h3.mono sF⟩, r.prot, (fun b o3 e => by
    have nb : b ≠ a := fun z => by rw [z, r.opr i _ a hi hs] at e; cases e
    rw [upd_ne nb]; exact r.prF b o3 e), fun j o2 b q z => by
    rcases get_set q with ⟨_, z⟩ | ⟨hj, q⟩
    · cases z
    · exact r.opr j o2 b q z⟩
  · by_cases hb : b = a
    · subst hb; rw [upd_same] at e; rw [hu]; exact e
    · rw [upd_ne hb] at e; exact r.same b o e
  · by_cases hb : b = a
    · subst hb; exact .inr (r.ownPar e3 hs)
    · rw [upd_ne hb] at e; exact r.low b o e
  · rcases get_set q with ⟨rfl, z⟩ | ⟨hj, q⟩
    · cases z; exact ⟨_, hs, e4.frz sF hu⟩
    · obtain ⟨w, f1, f2⟩ := r.val j e q
      exact ⟨w, f1, f2.mono sF⟩
  · rcases get_set q with ⟨rfl, z⟩ | ⟨hj, q⟩
    · cases z
    · obtain ⟨b, f1, f2, f3, f4⟩ := r.own j o q
      have : b ≠ a := fun z => by subst z; exact hj (r.sep j i b _ _ q hi f1 hs)
      exact ⟨b, f1, by rw [upd_ne this]; exact f2, f3, f4.mono sF rfl⟩
  · rcases get_set q1 with ⟨rfl, z⟩ | ⟨hj, q1⟩
    · cases z
    · rcases get_set q2 with ⟨rfl, z⟩ | ⟨hk, q2⟩
      · cases z
      · exact r.sep j k b o1 o2 q1 q2 q3 q4
/-- a fresh thing is kept for good -/
theorem Rel.freezeT (r : Rel K mg B F H σ ρ) {a : Addr} {o : Ob} (h : ObAt K mg F H a o) (hF : F a = none) (h0 : B.fr a) (hs : ∀ (j : Nat) (o' : Ob), ρ[j]? = some (.own o') → σ[j]? ≠ some (some (.ref a))) :
    ∃ F', Same F F' ∧ Dr K mg F' (.ref a) o.frz ∧ Rel K mg B F' H σ ρ := by
  obtain ⟨u, hu⟩ := h.some
  have sF := same_upd (u := u) hF
  refine ⟨upd F a u, sF, h.frz sF hu, r.len, r.same0.trans sF, fun b o e => ?_, r.keep, fun b o e => ?_, fun j e q => ?_, fun j o q => ?_, r.sep, r.pin, r.live, fun i e q => let ⟨a, C, d, h1, h2, h3⟩ := r.exc i e q; ⟨a, C, d, h1, h2, h3.mono sF⟩, r.prot, (fun b o3 e => by
    have nb : b ≠ a := fun z => by rw [z, h0.2] at e; cases e
    rw [upd_ne nb]; exact r.prF b o3 e), r.opr⟩
  · by_cases hb : b = a
    · subst hb; rw [upd_same] at e; rw [hu]; exact e
    · rw [upd_ne hb] at e; exact r.same b o e
  · by_cases hb : b = a
    · subst hb; exact .inr (.inl h0.1)
    · rw [upd_ne hb] at e; exact r.low b o e
  · obtain ⟨w, f1, f2⟩ := r.val j e q
    exact ⟨w, f1, f2.mono sF⟩
  · obtain ⟨b, f1, f2, f3, f4⟩ := r.own j o q
    have : b ≠ a := fun z => by subst z; exact hs j o q f1
    exact ⟨b, f1, by rw [upd_ne this]; exact f2, f3, f4.mono sF rfl⟩
end
end FL
namespace FL
open PySem PySem.Spec L2
open PyProof.Rows hiding St
def Rr (K : Fg) (mg : Mg) (B : Bs) (F H : Hp) (σ : L2.St) (ρ : List L) (v : V) : R → Prop
  | .val d => Dr K mg F v d
  | .own o => ∃ a, v = .ref a ∧ F a = none ∧ B.fr a ∧ (∀ (j : Nat) (o' : Ob), ρ[j]? = some (.own o') → σ[j]? ≠ some (some (.ref a))) ∧ ObAt K mg F H a o
  | .bor i => σ[i]? = some (some v)
abbrev RelX (X : Cx) (B : Bs) (F H : Hp) (σ : L2.St) (ρ : List L) : Prop := Rel X.K X.mg B F H σ ρ
abbrev RrX (X : Cx) (B : Bs) (σ : L2.St) (F H : Hp) (ρ : List L) (v : V) (r : R) : Prop := Rr X.K X.mg B F H σ ρ v r
abbrev VR (α β : Type) := Hp → Hp → List L → α → β → Prop
/-- the end of an expression's run -/
def Po {α β : Type} (X : Cx) (B : Bs) (W : WX) (σ : L2.St) (rel : VR α β) (F : Hp) (out : Out β) (Q : α → Hp → Prop) : Prop :=
  match out with
  | .ok r ρ' => ∀ F' H' v, Same F F' → RelX X B F' H' σ ρ' → rel F' H' ρ' v r → Q v H'
  | .er e ρ' => ∀ F' H' C d, Same F F' → RelX X B F' H' σ ρ' → ErAt X.K X.mg F' C d e → W C d σ H'
  | .bad => False
section
variable {X : Cx} {B : Bs} {W : WX} {σ : L2.St}
theorem Po.mono {α β : Type} {rel : VR α β} {F F1 : Hp} {out : Out β} {Q : α → Hp → Prop} (s : Same F F1) (h : Po X B W σ rel F out Q) : Po X B W σ rel F1 out Q := by
  cases out with
  | ok r ρ' => exact fun F' H' v s' => h F' H' v (s.trans s')
  | er e ρ' => exact fun F' H' C d s' => h F' H' C d (s.trans s')
  | bad => exact h
theorem Po.bnd {α β γ δ : Type} {rel : VR α β} {rel2 : VR γ δ} {F : Hp} {ρ : List L} {m : M β} {f : β → M δ} {Q : γ → Hp → Prop} {Q1 : α → Hp → Prop} (h : Po X B W σ rel2 F (M.bnd m f ρ) Q)
    (k : ∀ r ρ1 F1 H1 v, Same F F1 → RelX X B F1 H1 σ ρ1 → rel F1 H1 ρ1 v r → Po X B W σ rel2 F1 (f r ρ1) Q → Q1 v H1) : Po X B W σ rel F (m ρ) Q1 := by
  unfold M.bnd at h
  cases e : m ρ with
  | ok r ρ1 =>
    rw [e] at h
    exact fun F1 H1 v s1 R1 rv => k r ρ1 F1 H1 v s1 R1 rv (h.mono s1)
  | er er ρ1 => rw [e] at h; exact h
  | bad => rw [e] at h; exact h
theorem Po.ret {α β : Type} {rel : VR α β} {F H : Hp} {ρ : List L} {r : β} {Q : α → Hp → Prop} {v : α} (h : Po X B W σ rel F (M.ret r ρ) Q) (R1 : RelX X B F H σ ρ) (rv : rel F H ρ v r) : Q v H := h F H v (Same.refl _) R1 rv
end
abbrev relT : VR Bool Bool := fun _ _ _ v r => v = r
inductive RrAll (X : Cx) (B : Bs) (σ : L2.St) (F H : Hp) (ρ : List L) : List V → List R → Prop
  | nil : RrAll X B σ F H ρ [] []
  | cons {v : V} {vs : List V} {r : R} {rs : List R} : RrX X B σ F H ρ v r → RrAll X B σ F H ρ vs rs → RrAll X B σ F H ρ (v :: vs) (r :: rs)
def Tk (X : Cx) (B : Bs) (W : WX) (t : TE) (m : M R) : Prop := ∀ (F H : Hp) (σ : L2.St) (ρ : List L) (Q : VK), RelX X B F H σ ρ → Po X B W σ (RrX X B σ) F (m ρ) Q → t σ H Q
def TkA (X : Cx) (B : Bs) (W : WX) (t : TA) (m : M (List R)) : Prop := ∀ (F H : Hp) (σ : L2.St) (ρ : List L) (Q : List V → Hp → Prop), RelX X B F H σ ρ → Po X B W σ (RrAll X B σ) F (m ρ) Q → t σ H Q
def TkT (X : Cx) (B : Bs) (W : WX) (t : TT) (m : M Bool) : Prop := ∀ (F H : Hp) (σ : L2.St) (ρ : List L) (Q : Bool → Hp → Prop), RelX X B F H σ ρ → Po X B W σ relT F (m ρ) Q → t σ H Q
def FE (X : Cx) (B : Bs) (W : WX) (e : Expr) (m : M R) : Prop := ∃ t, PE X e t ∧ Tk X B W t m
def FA (X : Cx) (B : Bs) (W : WX) (es : List Expr) (m : M (List R)) : Prop := ∃ t, PA X es t ∧ TkA X B W t m
def FT (X : Cx) (B : Bs) (W : WX) (e : Expr) (m : M Bool) : Prop := ∃ t, PT X e t ∧ TkT X B W t m
def FW (X : Cx) (B : Bs) (W : WX) (e : Expr) (m : M Bool) : Prop := ∃ t, PW X e t ∧ TkT X B W t m
/-- goes on only with what stays true while further operands are reckoned -/
def M.stay {α : Type} (r : R) (m : M α) : M α := match r with
  | .own _ => M.no
  | _ => m
section
variable {X : Cx} {B : Bs} {W : WX} {σ : L2.St} {F F' H H' : Hp} {ρ ρ' : List L}
theorem Rr.per {v : V} : ∀ {r : R}, (∀ o, r ≠ .own o) → Same F F' → RrX X B σ F H ρ v r → RrX X B σ F' H' ρ' v r
  | .val d, _, s, h => Dr.mono s h
  | .own o, n, _, _ => absurd rfl (n o)
  | .bor i, _, _, h => h
theorem stay_ok {α β : Type} {rel : VR α β} {r : R} {m : M β} {Q : α → Hp → Prop} (h : Po X B W σ rel F (M.stay r m ρ) Q) : (∀ o, r ≠ .own o) ∧ Po X B W σ rel F (m ρ) Q := by
  cases r with
  | own o => exact False.elim h
  | val d => exact ⟨fun _ z => (nomatch z), h⟩
  | bor i => exact ⟨fun _ z => (nomatch z), h⟩
end
/-! ### constants, names -/
section
variable {X : Cx} {B : Bs} {W : WX}
theorem Tk.val {v : V} {d : Dt} (h : ∀ F, Dr X.K X.mg F v d) : Tk X B W (tC v) (M.ret (.val d)) := fun F H σ ρ Q r p => p.ret r (h F)
theorem fe_int {i : Int} {j : Nat} {pos : Pos} : FE X B W (.Constant (.int i) j pos) (M.ret (.val (.int i))) := ⟨_, pe_int, .val fun _ => .int⟩
theorem fe_bl {b : Bool} {j : Nat} {pos : Pos} : FE X B W (.Constant (.bool b) j pos) (M.ret (.val (.bl b))) := ⟨_, pe_bl, .val fun _ => .bl⟩
theorem fe_non {j : Nat} {pos : Pos} : FE X B W (.Constant .none j pos) (M.ret (.val .non)) := ⟨_, pe_non, .val fun _ => .non⟩
theorem fe_str {x : Str} {j : Nat} {pos : Pos} (h : PyData.strOk x = true := by decide +kernel) : FE X B W (.Constant (.str x) j pos) (M.ret (.val (.str x))) := ⟨_, pe_str, .val fun _ => .str h⟩
/-- a name's value; a thing of its own is kept for good from here on -/
def mVar (i : Nat) : M R := fun ρ => match ρ[i]? with
  | some (.val d) => .ok (.val d) ρ
  | some (.own o) => .ok (.val o.frz) (ρ.set i (.val o.frz))
  | _ => .bad
/-- a name that is only looked at -/
def mPeek (i : Nat) : M R := fun ρ => match ρ[i]? with
  | some (.val d) => .ok (.val d) ρ
  | some (.own o) => .ok (.bor i) ρ
  | _ => .bad
/-- a name's own thing is handed on; the name is not used again -/
def mMove (i : Nat) : M R := fun ρ => match ρ[i]? with
  | some (.val d) => .ok (.val d) ρ
  | some (.own o) => .ok (.own o) (ρ.set i .non)
  | _ => .bad
theorem Tk.var {i : Nat} : Tk X B W (tVar i) (mVar i) := fun F H σ ρ Q r p => by
  unfold mVar at p
  cases e : ρ[i]? with
  | none => rw [e] at p; exact p.elim
  | some l =>
    cases l with
    | non => rw [e] at p; exact p.elim
    | exc _ => rw [e] at p; exact p.elim
    | val d =>
      rw [e] at p
      obtain ⟨v, h1, h2⟩ := r.val i d e
      exact ⟨v, h1, p F H v (Same.refl _) r h2⟩
    | own o =>
      rw [e] at p
      obtain ⟨F', v, s, h1, h2, r'⟩ := r.freeze e
      exact ⟨v, h1, p F' H v s r' h2⟩
theorem Tk.peek {i : Nat} : Tk X B W (tVar i) (mPeek i) := fun F H σ ρ Q r p => by
  unfold mPeek at p
  cases e : ρ[i]? with
  | none => rw [e] at p; exact p.elim
  | some l =>
    cases l with
    | non => rw [e] at p; exact p.elim
    | exc _ => rw [e] at p; exact p.elim
    | val d =>
      rw [e] at p
      obtain ⟨v, h1, h2⟩ := r.val i d e
      exact ⟨v, h1, p F H v (Same.refl _) r h2⟩
    | own o =>
      rw [e] at p
      obtain ⟨a, h1, _⟩ := r.own i o e
      exact ⟨.ref a, h1, p F H _ (Same.refl _) r h1⟩
theorem Tk.move {i : Nat} (hi : i ∉ B.om) : Tk X B W (tVar i) (mMove i) := fun F H σ ρ Q r p => by
  unfold mMove at p
  cases e : ρ[i]? with
  | none => rw [e] at p; exact p.elim
  | some l =>
    cases l with
    | non => rw [e] at p; exact p.elim
    | exc _ => rw [e] at p; exact p.elim
    | val d =>
      rw [e] at p
      obtain ⟨v, h1, h2⟩ := r.val i d e
      exact ⟨v, h1, p F H v (Same.refl _) r h2⟩
    | own o =>
      rw [e] at p
      obtain ⟨a, h1, h2, h3, h4⟩ := r.own i o e
      refine ⟨.ref a, h1, p F H _ (Same.refl _) r.gone ⟨a, rfl, h2, ⟨h3.resolve_right hi, r.opr i o a e h1⟩, fun j o' q z => ?_, h4⟩⟩
      rcases get_set q with ⟨rfl, z⟩ | ⟨hj, q⟩
      · cases z
      · exact hj (r.sep j i a _ _ q e z h1)
section
variable {i : Nat} {x : Str} {pos : Pos} (hN : X.N[i]? = some x) (hv : Vis X.env.scope x) (hd : (x == ("__debug__" : Str)) = false) (hcd : (x == ("__classdict__" : Str)) = false)
include hN hv hd hcd
theorem fe_var' : FE X B W (.Name x pos) (mVar i) := ⟨_, pe_var hN hv hd hcd, .var⟩
theorem fe_peek' : FE X B W (.Name x pos) (mPeek i) := ⟨_, pe_var hN hv hd hcd, .peek⟩
theorem fe_move' (hi : i ∉ B.om) : FE X B W (.Name x pos) (mMove i) := ⟨_, pe_var hN hv hd hcd, .move hi⟩
end
theorem nmem {l : List Nat} {i : Nat} (h : l.contains i = false) : i ∉ l := by simpa using h
theorem nmems {l vs : List Nat} (h : vs.all (fun i => !l.contains i) = true) : ∀ i ∈ vs, i ∉ l := fun i hi => by simpa using List.all_eq_true.mp h i hi
theorem fe_var (i : Nat) {x : Str} {pos : Pos} (hN : X.N[i]? = some x := by rfl) (hv : Vis X.env.scope x := by first | exact Or.inl rfl | exact Or.inr (Or.inl rfl) | exact Or.inr (Or.inr rfl)) (hd : (x == ("__debug__" : Str)) = false := by decide) (hcd : (x == ("__classdict__" : Str)) = false := by decide) : FE X B W (.Name x pos) (mVar i) := fe_var' hN hv hd hcd
theorem fe_peek (i : Nat) {x : Str} {pos : Pos} (hN : X.N[i]? = some x := by rfl) (hv : Vis X.env.scope x := by first | exact Or.inl rfl | exact Or.inr (Or.inl rfl) | exact Or.inr (Or.inr rfl)) (hd : (x == ("__debug__" : Str)) = false := by decide) (hcd : (x == ("__classdict__" : Str)) = false := by decide) : FE X B W (.Name x pos) (mPeek i) := fe_peek' hN hv hd hcd
theorem fe_move (i : Nat) {x : Str} {pos : Pos} (hi : B.om.contains i = false := by rfl) (hN : X.N[i]? = some x := by rfl) (hv : Vis X.env.scope x := by first | exact Or.inl rfl | exact Or.inr (Or.inl rfl) | exact Or.inr (Or.inr rfl)) (hd : (x == ("__debug__" : Str)) = false := by decide) (hcd : (x == ("__classdict__" : Str)) = false := by decide) : FE X B W (.Name x pos) (mMove i) := fe_move' hN hv hd hcd (nmem hi)
end
/-! ### a fresh thing is kept for good -/
def R.frz : R → R
  | .own o => .val o.frz
  | r => r
def mFrz (m : M R) : M R := M.bnd m fun r => M.ret r.frz
section
variable {X : Cx} {B : Bs} {W : WX}
theorem Tk.frz {t : TE} {m : M R} (h : Tk X B W t m) : Tk X B W t (mFrz m) := fun F H σ ρ Q r p => by
  refine h F H σ ρ Q r (p.bnd fun r1 ρ1 F1 H1 v s1 R1 rv q => ?_)
  cases r1 with
  | val d => exact q.ret R1 rv
  | bor i => exact q.ret R1 rv
  | own o =>
    obtain ⟨a, rfl, h1, h2, h3, h4⟩ := rv
    obtain ⟨F2, s2, d2, R2⟩ := R1.freezeT h4 h1 h2 h3
    exact q F2 H1 _ s2 R2 d2
theorem FE.frz {e : Expr} {m : M R} (h : FE X B W e m) : FE X B W e (mFrz m) := let ⟨t, p, k⟩ := h; ⟨t, p, k.frz⟩
end
/-! ### operators -/
def OpS (X : Cx) (B : Bs) (W : WX) (r : R2) (g : R → R → M R) : Prop := ∀ (F H : Hp) (σ : L2.St) (ρ : List L) (x y : V) (a b : R) (Q : VK), RelX X B F H σ ρ → RrX X B σ F H ρ x a → RrX X B σ F H ρ y b → Po X B W σ (RrX X B σ) F (g a b ρ) Q → r x y H Q
def m2 (g : R → R → M R) (m n : M R) : M R := M.bnd m fun a => M.stay a (M.bnd n fun b => g a b)
section
variable {X : Cx} {B : Bs} {W : WX}
theorem Tk.op {r : R2} {g : R → R → M R} {ta tb : TE} {ma mb : M R} (hg : OpS X B W r g) (ha : Tk X B W ta ma) (hb : Tk X B W tb mb) : Tk X B W (tOp r ta tb) (m2 g ma mb) := fun F H σ ρ Q R0 p => by
  refine ha F H σ ρ _ R0 (p.bnd fun a ρ1 F1 H1 x s1 R1 ra q => ?_)
  obtain ⟨ns, q⟩ := stay_ok q
  refine hb F1 H1 σ ρ1 _ R1 (q.bnd fun b ρ2 F2 H2 y s2 R2 rb q2 => ?_)
  exact hg F2 H2 σ ρ2 x y a b Q R2 (Rr.per ns s2 ra) rb q2
variable {a b : Expr} {pos : Pos} {ma mb : M R}
theorem fe_op {op : Operator} {r : R2} {g : R → R → M R} (ho : OpR X (binaryOp op) r) (hg : OpS X B W r g) (ha : FE X B W a ma) (hb : FE X B W b mb) : FE X B W (.BinOp a op b pos) (m2 g ma mb) :=
  let ⟨_, pa, ka⟩ := ha; let ⟨_, pb, kb⟩ := hb; ⟨_, pe_op ho pa pb, .op hg ka kb⟩
theorem fe_cmp {op : CmpOp} {r : R2} {g : R → R → M R} (ho : OpR X (compareOp op) r) (hg : OpS X B W r g) (ha : FE X B W a ma) (hb : FE X B W b mb) (hm : behindInMarks op b = false) : FE X B W (.Compare a [op] [b] pos) (m2 g ma mb) :=
  let ⟨_, pa, ka⟩ := ha; let ⟨_, pb, kb⟩ := hb; ⟨_, pe_cmpR ho pa pb hm, .op hg ka kb⟩
theorem fe_ix {r : R2} {g : R → R → M R} (ho : IxR X r) (hg : OpS X B W r g) (ha : FE X B W a ma) (hb : FE X B W b mb) (hs : PlainIx b) : FE X B W (.Subscript a b pos) (m2 g ma mb) :=
  let ⟨_, pa, ka⟩ := ha; let ⟨_, pb, kb⟩ := hb; ⟨_, pe_ix ho pa pb hs, .op hg ka kb⟩
end
/-- two whole numbers -/
def gI (C : Int → Int → Bool) (f : Int → Int → Dt) : R → R → M R := fun a b => match a, b with
  | .val (.int i), .val (.int j) => if C i j = true then M.ret (.val (f i j)) else M.no
  | _, _ => M.no
section
variable {X : Cx} {B : Bs} {W : WX}
theorem gI_inv {C : Int → Int → Bool} {f : Int → Int → Dt} {a b : R} {σ : L2.St} {F : Hp} {ρ : List L} {Q : VK} (p : Po X B W σ (RrX X B σ) F (gI C f a b ρ) Q) : ∃ i j, a = .val (.int i) ∧ b = .val (.int j) ∧ C i j = true ∧ Po X B W σ (RrX X B σ) F (M.ret (.val (f i j)) ρ) Q := by
  unfold gI at p
  split at p
  · rename_i i j
    by_cases h : C i j = true
    · rw [if_pos h] at p; exact ⟨i, j, rfl, rfl, h, p⟩
    · rw [if_neg h] at p; exact p.elim
  · exact p.elim
theorem OpS.int0 {g : Int → Int → V} {f : Int → Int → Dt} (h : ∀ i j F, Dr X.K X.mg F (g i j) (f i j)) : OpS X B W (rI0 g) (gI (fun _ _ => true) f) := fun F H σ ρ x y a b Q R0 ra rb p => by
  obtain ⟨i, j, rfl, rfl, _, q⟩ := gI_inv p
  cases ra; cases rb
  exact ⟨i, j, rfl, rfl, q.ret R0 (h i j F)⟩
theorem OpS.intC {C : Int → Int → Prop} {c : Int → Int → Bool} {g : Int → Int → V} {f : Int → Int → Dt} (hc : ∀ i j, c i j = true → C i j) (h : ∀ i j F, Dr X.K X.mg F (g i j) (f i j)) : OpS X B W (rI C g) (gI c f) := fun F H σ ρ x y a b Q R0 ra rb p => by
  obtain ⟨i, j, rfl, rfl, z, q⟩ := gI_inv p
  cases ra; cases rb
  exact ⟨i, j, rfl, rfl, hc i j z, q.ret R0 (h i j F)⟩
def mulOk (i j : Int) : Bool := (decide (-(2 ^ 64) < i) && decide (i < 2 ^ 64)) || (decide (-(2 ^ 64) < j) && decide (j < 2 ^ 64))
def divOk (i j : Int) : Bool := decide (j ≠ 0) && decide (j.natAbs < 1073741824)
def modOk (i j : Int) : Bool := decide (j ≠ 0)
def powOk (i j : Int) : Bool := decide (0 ≤ j) && decide (j ≤ 1000000) && decide (i.natAbs < 2 ^ 64)
abbrev gAdd := gI (fun _ _ => true) fun i j => .int (i + j)
abbrev gSub := gI (fun _ _ => true) fun i j => .int (i - j)
abbrev gMul := gI mulOk fun i j => .int (i * j)
abbrev gDiv := gI divOk fun i j => .int (i.fdiv j)
abbrev gMod := gI modOk fun i j => .int (i.fmod j)
abbrev gPow := gI powOk fun i j => .int (i ^ j.toNat)
abbrev gLt := gI (fun _ _ => true) fun i j => .bl (decide (i < j))
abbrev gLe := gI (fun _ _ => true) fun i j => .bl (decide (i ≤ j))
abbrev gGt := gI (fun _ _ => true) fun i j => .bl (decide (j < i))
abbrev gGe := gI (fun _ _ => true) fun i j => .bl (decide (j ≤ i))
variable {a b : Expr} {pos : Pos} {ma mb : M R}
theorem fe_add (ha : FE X B W a ma) (hb : FE X B W b mb) : FE X B W (.BinOp a .Add b pos) (m2 gAdd ma mb) := fe_op op_add (.int0 fun _ _ _ => .int) ha hb
theorem fe_sub (ha : FE X B W a ma) (hb : FE X B W b mb) : FE X B W (.BinOp a .Sub b pos) (m2 gSub ma mb) := fe_op op_sub (.int0 fun _ _ _ => .int) ha hb
theorem fe_mul (ha : FE X B W a ma) (hb : FE X B W b mb) : FE X B W (.BinOp a .Mult b pos) (m2 gMul ma mb) := fe_op op_mul (.intC (fun i j h => by
  unfold mulOk at h; unfold CMul; simp only [Bool.or_eq_true, Bool.and_eq_true, decide_eq_true_eq] at h; exact h) fun _ _ _ => .int) ha hb
theorem fe_div (ha : FE X B W a ma) (hb : FE X B W b mb) : FE X B W (.BinOp a .FloorDiv b pos) (m2 gDiv ma mb) := fe_op op_fdivN (.intC (fun i j h => by
  unfold divOk at h; unfold CDivN; simp only [Bool.and_eq_true, decide_eq_true_eq] at h; exact h) fun _ _ _ => .int) ha hb
theorem fe_mod (ha : FE X B W a ma) (hb : FE X B W b mb) : FE X B W (.BinOp a .Mod b pos) (m2 gMod ma mb) := fe_op op_modN (.intC (fun i j h => of_decide_eq_true h) fun _ _ _ => .int) ha hb
theorem fe_pow (ha : FE X B W a ma) (hb : FE X B W b mb) : FE X B W (.BinOp a .Pow b pos) (m2 gPow ma mb) := fe_op op_pow (.intC (fun i j h => by
  unfold powOk at h; unfold CPow; simp only [Bool.and_eq_true, decide_eq_true_eq] at h; exact ⟨h.1.1, h.1.2, h.2⟩) fun _ _ _ => .int) ha hb
theorem fe_lt (ha : FE X B W a ma) (hb : FE X B W b mb) : FE X B W (.Compare a [.Lt] [b] pos) (m2 gLt ma mb) := fe_cmp op_lt (.int0 fun _ _ _ => .bl) ha hb (nomark _)
theorem fe_le (ha : FE X B W a ma) (hb : FE X B W b mb) : FE X B W (.Compare a [.LtE] [b] pos) (m2 gLe ma mb) := fe_cmp op_le (.int0 fun _ _ _ => .bl) ha hb (nomark _)
theorem fe_gt (ha : FE X B W a ma) (hb : FE X B W b mb) : FE X B W (.Compare a [.Gt] [b] pos) (m2 gGt ma mb) := fe_cmp op_gt (.int0 fun _ _ _ => .bl) ha hb (nomark _)
theorem fe_ge (ha : FE X B W a ma) (hb : FE X B W b mb) : FE X B W (.Compare a [.GtE] [b] pos) (m2 gGe ma mb) := fe_cmp op_ge (.int0 fun _ _ _ => .bl) ha hb (nomark _)
end
end FL
namespace FL
open PySem PySem.Spec L2
open PyProof.Rows hiding St
/-! ### == of data -/
mutual
def Dt.py : Dt → PyData
  | .non => .none
  | .bl b => .bool b
  | .int i => .int i
  | .str x => .str x
  | .tup l => .tuple (Dt.pyAll l)
  | .lst l => .list (Dt.pyAll l)
  | .wls l => .list (Dt.pyAll l)
  | .ins _ _ => .dict []
  | .dic _ => .dict []
def Dt.pyAll : List Dt → List PyData
  | [] => []
  | d :: ds => d.py :: Dt.pyAll ds
end
mutual
def Dt.plain : Dt → Bool
  | .non => true
  | .bl _ => true
  | .int _ => true
  | .str _ => true
  | .tup l => Dt.plainAll l
  | .lst l => Dt.plainAll l
  | .wls l => Dt.plainAll l
  | .ins _ _ => false
  | .dic _ => false
def Dt.plainAll : List Dt → Bool
  | [] => true
  | d :: ds => d.plain && Dt.plainAll ds
end
section
variable {K : Fg} {mg : Mg} {H : Hp}
mutual
theorem Dr.dp : ∀ {d : Dt} {v : V}, Dr K mg H v d → d.plain = true → Dp K H v d.py
  | .non, _, h, _ => by cases h; exact .non
  | .bl _, _, h, _ => by cases h; exact .bl _
  | .int _, _, h, _ => by cases h; exact .int _
  | .str _, _, h, _ => by cases h; exact .str _
  | .tup ds, _, h, p => by cases h with | tup h1 h2 => exact .tup h1 (DrAll.dp h2 p)
  | .lst ds, _, h, p => by cases h with | lst h1 h2 => exact .lst (SqL.of h1) (DrAll.dp h2 p)
  | .wls ds, _, h, p => by cases h with | wls h1 h2 => exact .lst h1 (DrAll.dp h2 p)
  | .ins _ _, _, _, p => absurd p Bool.false_ne_true
  | .dic _, _, _, p => absurd p Bool.false_ne_true
theorem DrAll.dp : ∀ {ds : List Dt} {vs : List V}, DrAll K mg H vs ds → Dt.plainAll ds = true → DpAll K H vs (Dt.pyAll ds)
  | [], _, h, _ => by cases h; exact .nil
  | d :: ds, _, h, p => by
    cases h with
    | cons h1 h2 =>
      have p' := Bool.and_eq_true_iff.mp p
      exact .cons (Dr.dp h1 p'.1) (DrAll.dp h2 p'.2)
end
mutual
theorem Dr.lay : ∀ {d : Dt} {v : V}, Dr K mg H v d → d.plain = true → d.py.canLay0 = true
  | .non, _, _, _ => rfl
  | .bl _, _, _, _ => rfl
  | .int _, _, _, _ => rfl
  | .str _, _, h, _ => by cases h with | str h1 => exact h1
  | .tup ds, _, h, p => by cases h with | tup h1 h2 => exact DrAll.lay h2 p
  | .lst ds, _, h, p => by cases h with | lst h1 h2 => exact DrAll.lay h2 p
  | .wls ds, _, h, p => by cases h with | wls h1 h2 => exact DrAll.lay h2 p
  | .ins _ _, _, _, p => absurd p Bool.false_ne_true
  | .dic _, _, _, p => absurd p Bool.false_ne_true
theorem DrAll.lay : ∀ {ds : List Dt} {vs : List V}, DrAll K mg H vs ds → Dt.plainAll ds = true → PyData.canLayAll0 (Dt.pyAll ds) = true
  | [], _, _, _ => rfl
  | d :: ds, _, h, p => by
    cases h with
    | cons h1 h2 =>
      have p' := Bool.and_eq_true_iff.mp p
      exact Bool.and_eq_true_iff.mpr ⟨Dr.lay h1 p'.1, DrAll.lay h2 p'.2⟩
end
end
/-- what may be compared: no instance, no dict; not too deep -/
def Dt.cmp (d : Dt) : Bool := d.plain && decide (d.py.depth ≤ 64)
theorem Dr.cmpd {K : Fg} {mg : Mg} {H : Hp} {d : Dt} {v : V} (h : Dr K mg H v d) (c : d.cmp = true) : Dp K H v d.py ∧ SeqAt.shaped d.py = true := by
  obtain ⟨c1, c2⟩ := Bool.and_eq_true_iff.mp c
  exact ⟨h.dp c1, Bool.and_eq_true_iff.mpr ⟨h.lay c1, c2⟩⟩
/-- the data of a result -/
def R.dt (ρ : List L) : R → Option Dt
  | .val d => some d
  | .own o => some o.frz
  | .bor i => match ρ[i]? with
    | some (.val d) => some d
    | some (.own o) => some o.frz
    | _ => none
theorem ObAt.dr {K : Fg} {mg : Mg} {F H : Hp} {a : Addr} (s : Same F H) : ∀ {o : Ob}, ObAt K mg F H a o → Dr K mg H (.ref a) o.frz
  | .lst _, ⟨vs, h1, h2⟩ => .lst h1 (h2.mono s)
  | .dic _, ⟨vs, h1, h2⟩ => .dic h1 (h2.mono s)
section
variable {X : Cx} {B : Bs} {W : WX} {σ : L2.St} {F H : Hp} {ρ : List L}
theorem R.dt_ok (R0 : RelX X B F H σ ρ) {v : V} {d : Dt} : ∀ {r : R}, RrX X B σ F H ρ v r → r.dt ρ = some d → Dr X.K X.mg H v d
  | .val e, h, q => by cases q; exact Dr.mono R0.same h
  | .own o, h, q => by
    obtain ⟨a, rfl, _, _, _, h4⟩ := h
    cases q
    exact h4.dr R0.same
  | .bor i, h, q => by
    have h' : σ[i]? = some (some v) := h
    dsimp only [R.dt] at q
    cases e : ρ[i]? with
    | none => rw [e] at q; cases q
    | some l =>
      rw [e] at q
      cases l with
      | non => cases q
      | exc _ => cases q
      | val d' =>
        cases q
        obtain ⟨w, h1, h2⟩ := R0.val i d e
        rw [h'] at h1; cases h1
        exact h2.mono R0.same
      | own o =>
        cases q
        obtain ⟨a, h1, _, _, h4⟩ := R0.own i o e
        rw [h'] at h1; cases h1
        exact h4.dr R0.same
/-- the items of a list or a tuple that is looked at -/
def Dt.items : Dt → Option (List Dt)
  | .tup l => some l
  | .lst l => some l
  | .wls l => some l
  | _ => none
/-- its items stay -/
theorem R.items_ok (R0 : RelX X B F H σ ρ) {v : V} {d : Dt} {ds : List Dt} {r : R} (h : RrX X B σ F H ρ v r) (q : r.dt ρ = some d) (qi : d.items = some ds) : ∃ a vs, v = .ref a ∧ (SqL X.K H a vs ∨ SqT X.K H a vs) ∧ DrAll X.K X.mg F vs ds := by
  have key : ∀ {d : Dt}, Dr X.K X.mg F v d → d.items = some ds → ∃ a vs, v = .ref a ∧ (SqL X.K H a vs ∨ SqT X.K H a vs) ∧ DrAll X.K X.mg F vs ds := fun {d} h q => by
    cases h with
    | tup h1 h2 => cases q; exact ⟨_, _, rfl, .inr (Same.sqt R0.same h1), h2⟩
    | lst h1 h2 => cases q; exact ⟨_, _, rfl, .inl (SqL.of (R0.same _ _ h1)), h2⟩
    | wls h1 h2 => cases q; exact ⟨_, _, rfl, .inl (R0.same.seq h1), h2⟩
    | _ => cases q
  have keyo : ∀ {a : Addr} {o : Ob}, v = .ref a → ObAt X.K X.mg F H a o → o.frz.items = some ds → ∃ a vs, v = .ref a ∧ (SqL X.K H a vs ∨ SqT X.K H a vs) ∧ DrAll X.K X.mg F vs ds := fun {a o} e h q => by
    cases o with
    | lst l => cases q; obtain ⟨vs, h1, h2⟩ := h; exact ⟨_, _, e, .inl (SqL.of h1), h2⟩
    | dic _ => cases q
  cases r with
  | val d' => cases q; exact key h qi
  | own o =>
    obtain ⟨a, e, _, _, _, h4⟩ := h
    cases q
    exact keyo e h4 qi
  | bor i =>
    have h' : σ[i]? = some (some v) := h
    dsimp only [R.dt] at q
    cases e : ρ[i]? with
    | none => rw [e] at q; cases q
    | some l =>
      rw [e] at q
      cases l with
      | non => cases q
      | exc _ => cases q
      | val d' =>
        cases q
        obtain ⟨w, h1, h2⟩ := R0.val i d e
        rw [h'] at h1; cases h1
        exact key h2 qi
      | own o =>
        cases q
        obtain ⟨a, h1, _, _, h4⟩ := R0.own i o e
        rw [h'] at h1; cases h1
        exact keyo rfl h4 qi
end
/-- two looked at -/
def gD (f : Dt → Dt → Option Dt) : R → R → M R := fun a b ρ => match a.dt ρ with
  | some d => match b.dt ρ with
    | some e => match f d e with
      | some z => .ok (.val z) ρ
      | none => .bad
    | none => .bad
  | none => .bad
theorem gD_inv {X : Cx} {B : Bs} {W : WX} {σ : L2.St} {F : Hp} {ρ : List L} {f : Dt → Dt → Option Dt} {a b : R} {Q : VK} (p : Po X B W σ (RrX X B σ) F (gD f a b ρ) Q) : ∃ d e z, a.dt ρ = some d ∧ b.dt ρ = some e ∧ f d e = some z ∧ Po X B W σ (RrX X B σ) F (.ok (.val z) ρ) Q := by
  unfold gD at p
  cases h1 : a.dt ρ with
  | none => rw [h1] at p; exact p.elim
  | some d =>
    cases h2 : b.dt ρ with
    | none => rw [h1, h2] at p; exact p.elim
    | some e =>
      cases h3 : f d e with
      | none => rw [h1, h2] at p; dsimp only at p; rw [h3] at p; exact p.elim
      | some z => rw [h1, h2] at p; dsimp only at p; rw [h3] at p; exact ⟨d, e, z, rfl, rfl, h3, p⟩
def dEq (d e : Dt) : Option Dt := if (d.cmp && e.cmp) = true then some (.bl (PyData.eqv d.py e.py)) else none
def dNe (d e : Dt) : Option Dt := if (d.cmp && e.cmp) = true then some (.bl (!PyData.eqv d.py e.py)) else none
def dIn (d e : Dt) : Option Dt := match e.items with
  | some ds => if (d.cmp && e.cmp) = true then some (.bl (ds.any fun z => PyData.eqv z.py d.py)) else none
  | none => none
def dNotIn (d e : Dt) : Option Dt := match e.items with
  | some ds => if (d.cmp && e.cmp) = true then some (.bl (!ds.any fun z => PyData.eqv z.py d.py)) else none
  | none => none
def dIsN (d e : Dt) : Option Dt := match e, d with
  | .non, .non => some (.bl true)
  | .non, _ => some (.bl false)
  | _, _ => none
def dNotN (d e : Dt) : Option Dt := match e, d with
  | .non, .non => some (.bl false)
  | .non, _ => some (.bl true)
  | _, _ => none
section
variable {X : Cx} {B : Bs} {W : WX}
theorem OpS.eq : OpS X B W (rEqD X.K) (gD dEq) := fun F H σ ρ x y a b Q R0 ra rb p => by
  obtain ⟨d, e, z, h1, h2, h3, q⟩ := gD_inv p
  unfold dEq at h3
  by_cases c : (d.cmp && e.cmp) = true
  · rw [if_pos c] at h3; cases h3
    obtain ⟨c1, c2⟩ := Bool.and_eq_true_iff.mp c
    obtain ⟨u1, u2⟩ := (R.dt_ok R0 ra h1).cmpd c1
    obtain ⟨w1, w2⟩ := (R.dt_ok R0 rb h2).cmpd c2
    exact ⟨_, _, u1, w1, u2, w2, q F H _ (Same.refl _) R0 .bl⟩
  · rw [if_neg c] at h3; cases h3
theorem OpS.ne : OpS X B W (rNeD X.K) (gD dNe) := fun F H σ ρ x y a b Q R0 ra rb p => by
  obtain ⟨d, e, z, h1, h2, h3, q⟩ := gD_inv p
  unfold dNe at h3
  by_cases c : (d.cmp && e.cmp) = true
  · rw [if_pos c] at h3; cases h3
    obtain ⟨c1, c2⟩ := Bool.and_eq_true_iff.mp c
    obtain ⟨u1, u2⟩ := (R.dt_ok R0 ra h1).cmpd c1
    obtain ⟨w1, w2⟩ := (R.dt_ok R0 rb h2).cmpd c2
    exact ⟨_, _, u1, w1, u2, w2, q F H _ (Same.refl _) R0 .bl⟩
  · rw [if_neg c] at h3; cases h3
theorem isN_ok {K : Fg} {mg : Mg} {H : Hp} {v : V} {d : Dt} (h : Dr K mg H v d) : decide (v = .non) = (match d with | .non => true | _ => false) := by
  cases h <;> rfl
theorem OpS.isN : OpS X B W (fun x y H Q => y = .non ∧ Q (.bl (decide (x = .non))) H) (gD dIsN) := fun F H σ ρ x y a b Q R0 ra rb p => by
  obtain ⟨d, e, z, h1, h2, h3, q⟩ := gD_inv p
  have u := R.dt_ok R0 ra h1
  have w := R.dt_ok R0 rb h2
  cases e with
  | non =>
    cases w
    refine ⟨rfl, ?_⟩
    show Q (.bl (decide (x = .non))) H
    rw [isN_ok u]
    cases d <;> (cases h3; exact q F H _ (Same.refl _) R0 .bl)
  | _ => cases h3
theorem OpS.notN : OpS X B W (fun x y H Q => y = .non ∧ Q (.bl (!decide (x = .non))) H) (gD dNotN) := fun F H σ ρ x y a b Q R0 ra rb p => by
  obtain ⟨d, e, z, h1, h2, h3, q⟩ := gD_inv p
  have u := R.dt_ok R0 ra h1
  have w := R.dt_ok R0 rb h2
  cases e with
  | non =>
    cases w
    refine ⟨rfl, ?_⟩
    show Q (.bl (!decide (x = .non))) H
    rw [isN_ok u]
    cases d <;> (cases h3; exact q F H _ (Same.refl _) R0 .bl)
  | _ => cases h3
variable {a b : Expr} {pos : Pos} {ma mb : M R}
theorem fe_eq {k : Nat} (hr : Room k X.A) (ha : FE X B W a ma) (hb : FE X B W b mb) : FE X B W (.Compare a [.Eq] [b] pos) (m2 (gD dEq) ma mb) := fe_cmp (op_eqD hr.units) OpS.eq ha hb (nomark _)
theorem fe_ne {k : Nat} (hr : Room k X.A) (ha : FE X B W a ma) (hb : FE X B W b mb) : FE X B W (.Compare a [.NotEq] [b] pos) (m2 (gD dNe) ma mb) := fe_cmp (op_neD hr.units) OpS.ne ha hb (nomark _)
theorem fe_isN (ha : FE X B W a ma) (hb : FE X B W b mb) : FE X B W (.Compare a [.Is] [b] pos) (m2 (gD dIsN) ma mb) := fe_cmp op_isN OpS.isN ha hb (nomark _)
theorem fe_notN (ha : FE X B W a ma) (hb : FE X B W b mb) : FE X B W (.Compare a [.IsNot] [b] pos) (m2 (gD dNotN) ma mb) := fe_cmp op_notN OpS.notN ha hb (nomark _)
end
/-! ### tests, and, or, not -/
def Dt.tru : Dt → Option Bool
  | .non => some false
  | .bl b => some b
  | .int i => some (i != 0)
  | .str x => if x.length ≤ 16777216 then some ((x.length : Int) != 0) else none
  | .tup l => some (!l.isEmpty)
  | .lst l => some (!l.isEmpty)
  | .wls l => some (!l.isEmpty)
  | .dic l => some (!l.isEmpty)
  | .ins _ _ => none
def mBool (m : M R) : M Bool := M.bnd m fun r => match r with
  | .val (.bl b) => M.ret b
  | _ => M.no
def mTru (m : M R) : M Bool := M.bnd m fun r ρ => match r.dt ρ with
  | some d => match d.tru with
    | some b => .ok b ρ
    | none => .bad
  | none => .bad
def mNot (m : M Bool) : M Bool := M.bnd m fun b => M.ret (!b)
def mAnd (m n : M Bool) : M Bool := M.bnd m fun b => if b = true then n else M.ret false
def mOr (m n : M Bool) : M Bool := M.bnd m fun b => if b = true then M.ret true else n
def mOfB (m : M Bool) : M R := M.bnd m fun b => M.ret (.val (.bl b))
def mIf {α : Type} (c : M Bool) (m n : M α) : M α := M.bnd c fun b => if b = true then m else n
section
variable {X : Cx} {B : Bs} {W : WX}
theorem TkT.bool {t : TE} {m : M R} (h : Tk X B W t m) : TkT X B W (tB t) (mBool m) := fun F H σ ρ Q R0 p => by
  refine h F H σ ρ _ R0 (p.bnd fun r ρ1 F1 H1 v s1 R1 rv q => ?_)
  split at q
  · cases rv
    exact ⟨_, rfl, q.ret R1 rfl⟩
  · exact q.elim
theorem DrAll.isEmpty {K : Fg} {mg : Mg} {H : Hp} {vs : List V} {ds : List Dt} (h : DrAll K mg H vs ds) : vs.isEmpty = ds.isEmpty := by
  cases h <;> rfl
theorem DrKs.isEmpty {K : Fg} {mg : Mg} {H : Hp} {vs : List (Key × V)} {ds : List (Key × Dt)} (h : DrKs K mg H vs ds) : vs.isEmpty = ds.isEmpty := by
  cases h <;> rfl
theorem Dr.truV {K : Fg} {mg : Mg} {H : Hp} {v : V} {d : Dt} {b : Bool} (h : Dr K mg H v d) (q : d.tru = some b) : TruV K v H b := by
  cases h with
  | non => cases q; rfl
  | bl => cases q; rfl
  | int => cases q; rfl
  | str h1 =>
    dsimp only [Dt.tru] at q
    split at q
    · rename_i h; cases q; exact ⟨by rw [sizeLine_eq]; exact h, rfl⟩
    · cases q
  | tup h1 h2 => cases q; exact .inr (.inl ⟨_, h1, by rw [h2.isEmpty]⟩)
  | lst h1 h2 => cases q; exact .inl ⟨_, SqL.of h1, by rw [h2.isEmpty]⟩
  | wls h1 h2 => cases q; exact .inl ⟨_, h1, by rw [h2.isEmpty]⟩
  | dic h1 h2 => cases q; exact .inr (.inr ⟨_, h1, by rw [h2.isEmpty]⟩)
  | ins => cases q
theorem TkT.tru {t : TE} {m : M R} (h : Tk X B W t m) : TkT X B W (fun σ H Q => t σ H fun x H' => ∃ k, TruV X.K x H' k ∧ Q k H') (mTru m) := fun F H σ ρ Q R0 p => by
  refine h F H σ ρ _ R0 (p.bnd fun r ρ1 F1 H1 v s1 R1 rv q => ?_)
  cases h1 : r.dt ρ1 with
  | none => rw [h1] at q; exact q.elim
  | some d =>
    rw [h1] at q
    dsimp only at q
    cases h2 : d.tru with
    | none => rw [h2] at q; exact q.elim
    | some b =>
      rw [h2] at q
      exact ⟨b, (R.dt_ok R1 rv h1).truV h2, q F1 H1 b (Same.refl _) R1 rfl⟩
theorem TkT.not {t : TT} {m : M Bool} (h : TkT X B W t m) : TkT X B W (tNot t) (mNot m) := fun F H σ ρ Q R0 p =>
  h F H σ ρ _ R0 (p.bnd fun r ρ1 F1 H1 v s1 R1 rv q => by cases rv; exact q.ret R1 rfl)
theorem TkT.and {t u : TT} {m n : M Bool} (h : TkT X B W t m) (g : TkT X B W u n) : TkT X B W (tAnd t u) (mAnd m n) := fun F H σ ρ Q R0 p =>
  h F H σ ρ _ R0 (p.bnd fun r ρ1 F1 H1 v s1 R1 rv q => by
    cases rv
    cases r with
    | true => exact g F1 H1 σ ρ1 Q R1 q
    | false => exact q.ret (v := false) R1 rfl)
theorem TkT.or {t u : TT} {m n : M Bool} (h : TkT X B W t m) (g : TkT X B W u n) : TkT X B W (tOr t u) (mOr m n) := fun F H σ ρ Q R0 p =>
  h F H σ ρ _ R0 (p.bnd fun r ρ1 F1 H1 v s1 R1 rv q => by
    cases rv
    cases r with
    | true => exact q.ret (v := true) R1 rfl
    | false => exact g F1 H1 σ ρ1 Q R1 q)
variable {a b : Expr} {rest : List Expr} {pos : Pos} {ma mb : M R} {mc md : M Bool}
theorem ft_bool (ha : FE X B W a ma) (he : ∀ whole, isTrue a X.env whole = (do let v ← whole; standAt a.pos; holding [v] (truthy v)) := by intro _; rfl) : FT X B W a (mBool ma) := let ⟨_, p, k⟩ := ha; ⟨_, pt_val p he, .bool k⟩
theorem ft_tru (ha : FE X B W a ma) (he : ∀ whole, isTrue a X.env whole = (do let v ← whole; standAt a.pos; holding [v] (truthy v)) := by intro _; rfl) : FT X B W a (mTru ma) := let ⟨_, p, k⟩ := ha; ⟨_, pt_truth p he, .tru k⟩
theorem ft_not (ha : FT X B W a mc) : FT X B W (.UnaryOp .Not a pos) (mNot mc) := let ⟨_, p, k⟩ := ha; ⟨_, pt_not p, .not k⟩
theorem FW.ft {e : Expr} (h : FW X B W e mc) : FT X B W e mc := let ⟨_, p, k⟩ := h; ⟨_, p.pt, k⟩
theorem fw_and1 (ha : FT X B W a mc) : FW X B W (.BoolOp .And [a] pos) mc := let ⟨_, p, k⟩ := ha; ⟨_, pw_and1 p, k⟩
theorem fw_or1 (ha : FT X B W a mc) : FW X B W (.BoolOp .Or [a] pos) mc := let ⟨_, p, k⟩ := ha; ⟨_, pw_or1 p, k⟩
theorem fw_and (ha : FT X B W a mc) (hb : FW X B W (.BoolOp .And (b :: rest) pos) md) : FW X B W (.BoolOp .And (a :: b :: rest) pos) (mAnd mc md) := let ⟨_, p, k⟩ := ha; let ⟨_, p2, k2⟩ := hb; ⟨_, pw_and p p2, .and k k2⟩
theorem fw_or (ha : FT X B W a mc) (hb : FW X B W (.BoolOp .Or (b :: rest) pos) md) : FW X B W (.BoolOp .Or (a :: b :: rest) pos) (mOr mc md) := let ⟨_, p, k⟩ := ha; let ⟨_, p2, k2⟩ := hb; ⟨_, pw_or p p2, .or k k2⟩
/-- and, or, not of truth values, as values -/
def mAndV (m n : M R) : M R := M.bnd (mBool m) fun b => if b = true then n else M.ret (.val (.bl false))
def mOrV (m n : M R) : M R := M.bnd (mBool m) fun b => if b = true then M.ret (.val (.bl true)) else n
theorem bnd_assoc {α β γ : Type} (m : M α) (f : α → M β) (g : β → M γ) : M.bnd (M.bnd m f) g = M.bnd m fun a => M.bnd (f a) g := by
  funext ρ
  unfold M.bnd
  cases m ρ <;> rfl
theorem Tk.andV {t u : TE} {m n : M R} (h : Tk X B W t m) (g : Tk X B W u n) : Tk X B W (tAndV t u) (mAndV m n) := fun F H σ ρ Q R0 p => by
  unfold mAndV mBool at p
  rw [bnd_assoc] at p
  refine h F H σ ρ _ R0 (p.bnd fun r ρ1 F1 H1 v s1 R1 rv q => ?_)
  split at q
  · rename_i b
    cases rv
    refine ⟨b, rfl, ?_⟩
    cases b with
    | true => exact g F1 H1 σ ρ1 Q R1 q
    | false => exact q F1 H1 _ (Same.refl _) R1 .bl
  · exact q.elim
theorem Tk.orV {t u : TE} {m n : M R} (h : Tk X B W t m) (g : Tk X B W u n) : Tk X B W (tOrV t u) (mOrV m n) := fun F H σ ρ Q R0 p => by
  unfold mOrV mBool at p
  rw [bnd_assoc] at p
  refine h F H σ ρ _ R0 (p.bnd fun r ρ1 F1 H1 v s1 R1 rv q => ?_)
  split at q
  · rename_i b
    cases rv
    refine ⟨b, rfl, ?_⟩
    cases b with
    | true => exact q F1 H1 _ (Same.refl _) R1 .bl
    | false => exact g F1 H1 σ ρ1 Q R1 q
  · exact q.elim
theorem Tk.notV {t : TE} {m : M R} (h : Tk X B W t m) : Tk X B W (tNotV t) (mOfB (mNot (mBool m))) := fun F H σ ρ Q R0 p => by
  unfold mOfB mNot mBool at p
  rw [bnd_assoc, bnd_assoc] at p
  refine h F H σ ρ _ R0 (p.bnd fun r ρ1 F1 H1 v s1 R1 rv q => ?_)
  cases r with
  | val d =>
    cases d with
    | bl b => cases rv; exact ⟨b, rfl, q F1 H1 _ (Same.refl _) R1 .bl⟩
    | _ => exact q.elim
  | _ => exact q.elim
theorem fe_one {op : BoolOp} (ha : FE X B W a ma) : FE X B W (.BoolOp op [a] pos) ma := let ⟨_, p, k⟩ := ha; ⟨_, pe_one p, k⟩
theorem fe_and (ha : FE X B W a ma) (hb : FE X B W (.BoolOp .And (b :: rest) pos) mb) : FE X B W (.BoolOp .And (a :: b :: rest) pos) (mAndV ma mb) := let ⟨_, p, k⟩ := ha; let ⟨_, p2, k2⟩ := hb; ⟨_, pe_and p p2, .andV k k2⟩
theorem fe_or (ha : FE X B W a ma) (hb : FE X B W (.BoolOp .Or (b :: rest) pos) mb) : FE X B W (.BoolOp .Or (a :: b :: rest) pos) (mOrV ma mb) := let ⟨_, p, k⟩ := ha; let ⟨_, p2, k2⟩ := hb; ⟨_, pe_or p p2, .orV k k2⟩
theorem fe_not (ha : FE X B W a ma) : FE X B W (.UnaryOp .Not a pos) (mOfB (mNot (mBool ma))) := let ⟨_, p, k⟩ := ha; ⟨_, pe_not p, .notV k⟩
theorem Tk.ife {c : TT} {t u : TE} {mc : M Bool} {m n : M R} (hc : TkT X B W c mc) (h : Tk X B W t m) (g : Tk X B W u n) : Tk X B W (tIf c t u) (mIf mc m n) := fun F H σ ρ Q R0 p =>
  hc F H σ ρ _ R0 (p.bnd fun r ρ1 F1 H1 v s1 R1 rv q => by
    cases rv
    cases r with
    | true => exact h F1 H1 σ ρ1 Q R1 q
    | false => exact g F1 H1 σ ρ1 Q R1 q)
theorem fe_ife {c : Expr} (hc : FT X B W c mc) (ha : FE X B W a ma) (hb : FE X B W b mb) : FE X B W (.IfExp c a b pos) (mIf mc ma mb) := let ⟨_, p, k⟩ := hc; let ⟨_, p1, k1⟩ := ha; let ⟨_, p2, k2⟩ := hb; ⟨_, pe_ifExp p p1 p2, .ife k k1 k2⟩
end
/-! ### arguments, displays, built-in calls -/
def mNil : M (List R) := M.ret []
def mCons (m : M R) (ms : M (List R)) : M (List R) := M.bnd m fun r => M.stay r (M.bnd ms fun rs => M.ret (r :: rs))
def CallS (X : Cx) (B : Bs) (W : WX) (r : List V → Hp → VK → Prop) (g : List R → M R) : Prop := ∀ (F H : Hp) (σ : L2.St) (ρ : List L) (xs : List V) (as : List R) (Q : VK), RelX X B F H σ ρ → RrAll X B σ F H ρ xs as → Po X B W σ (RrX X B σ) F (g as ρ) Q → r xs H Q
section
variable {X : Cx} {B : Bs} {W : WX}
theorem TkA.nil : TkA X B W tNil mNil := fun F H σ ρ Q R0 p => p.ret R0 .nil
theorem TkA.cons {t : TE} {u : TA} {m : M R} {ms : M (List R)} (h : Tk X B W t m) (g : TkA X B W u ms) : TkA X B W (tCons t u) (mCons m ms) := fun F H σ ρ Q R0 p => by
  refine h F H σ ρ _ R0 (p.bnd fun r ρ1 F1 H1 v s1 R1 rv q => ?_)
  obtain ⟨ns, q⟩ := stay_ok q
  exact g F1 H1 σ ρ1 _ R1 (q.bnd fun rs ρ2 F2 H2 vs s2 R2 rvs q2 => q2.ret R2 (.cons (Rr.per ns s2 rv) rvs))
variable {e : Expr} {es : List Expr} {pos : Pos} {m : M R} {ms : M (List R)}
theorem fa_nil : FA X B W [] mNil := ⟨_, pa_nil, .nil⟩
theorem fa_cons (h : FE X B W e m) (g : FA X B W es ms) (hs : starEach (e :: es) X.env = (false, eval e X.env) :: starEach es X.env := by rfl) : FA X B W (e :: es) (mCons m ms) := let ⟨_, p, k⟩ := h; let ⟨_, p2, k2⟩ := g; ⟨_, pa_cons p p2 hs, .cons k k2⟩
def datas : List R → Option (List Dt)
  | [] => some []
  | .val d :: rs => (datas rs).map (d :: ·)
  | _ :: _ => none
theorem datas_ok {σ : L2.St} {F H : Hp} {ρ : List L} : ∀ {rs : List R} {vs : List V} {ds : List Dt}, RrAll X B σ F H ρ vs rs → datas rs = some ds → DrAll X.K X.mg F vs ds
  | [], _, _, h, q => by cases h; cases q; exact .nil
  | .val d :: rs, _, _, h, q => by
    cases h with
    | cons h1 h2 =>
      unfold datas at q
      cases e : datas rs with
      | none => rw [e] at q; cases q
      | some ds' => rw [e] at q; cases q; exact .cons h1 (datas_ok h2 e)
  | .own _ :: _, _, _, _, q => by cases q
  | .bor _ :: _, _, _, _, q => by cases q
def mDisp (f : List Dt → R) (ms : M (List R)) : M R := M.bnd ms fun rs => match datas rs with
  | some ds => if ds.length ≤ 16777216 then M.ret (f ds) else M.no
  | none => M.no
def mTup (ms : M (List R)) : M R := mDisp (fun ds => .val (.tup ds)) ms
def mLst (ms : M (List R)) : M R := mDisp (fun ds => .own (.lst ds)) ms
theorem mDisp_inv {σ : L2.St} {F : Hp} {ρ : List L} {f : List Dt → R} {rs : List R} {Q : VK} (p : Po X B W σ (RrX X B σ) F ((match datas rs with
  | some ds => if ds.length ≤ 16777216 then M.ret (f ds) else M.no
  | none => M.no : M R) ρ) Q) : ∃ ds, datas rs = some ds ∧ ds.length ≤ 16777216 ∧ Po X B W σ (RrX X B σ) F (M.ret (f ds) ρ) Q := by
  cases e : datas rs with
  | none => rw [e] at p; exact p.elim
  | some ds =>
    rw [e] at p
    dsimp only at p
    by_cases h : ds.length ≤ 16777216
    · rw [if_pos h] at p; exact ⟨ds, rfl, h, p⟩
    · rw [if_neg h] at p; exact p.elim
theorem Tk.tup {t : TA} (h : TkA X B W t ms) : Tk X B W (tTup t) (mTup ms) := fun F H σ ρ Q R0 p => by
  refine h F H σ ρ _ R0 (p.bnd fun rs ρ1 F1 H1 vs s1 R1 rvs q => ?_)
  obtain ⟨ds, e, hl, q⟩ := mDisp_inv q
  have k := datas_ok rvs e
  refine ⟨by rw [k.length, sizeLine_eq]; exact hl, fun p hp => ?_⟩
  have s2 := same_upd (u := HO.tup vs) (R1.fnone hp)
  exact q (upd F1 p (.tup vs)) _ _ s2 (R1.alloc hp _) (Dr.tup (.inl (.inl upd_same)) (k.mono s2))
/-- a fresh list at p -/
theorem fresh_lst {σ : L2.St} {F H : Hp} {ρ : List L} (R1 : RelX X B F H σ ρ) {p : Addr} (hp : H p = none) {vs : List V} {ds : List Dt} (k : DrAll X.K X.mg F vs ds) : RelX X B F (upd H p (.lst vs)) σ ρ ∧ RrX X B σ F (upd H p (.lst vs)) ρ (.ref p) (.own (.lst ds)) := by
  refine ⟨R1.allocOwn hp _, p, rfl, R1.fnone hp, R1.newF hp, fun j o' q z => ?_, vs, upd_same, k⟩
  obtain ⟨a, e1, e2, e3, e4⟩ := R1.own j o' q
  rw [e1] at z; cases z
  obtain ⟨u, hu⟩ := e4.some
  rw [hu] at hp; cases hp
end
end FL
namespace FL
open PySem PySem.Spec L2
open PyProof.Rows hiding St
section
variable {X : Cx} {B : Bs} {W : WX} {e : Expr} {es : List Expr} {pos p : Pos} {x : Str} {m : M R} {ms : M (List R)}
theorem Tk.lst {t : TA} (h : TkA X B W t ms) : Tk X B W (tLst t) (mLst ms) := fun F H σ ρ Q R0 p => by
  refine h F H σ ρ _ R0 (p.bnd fun rs ρ1 F1 H1 vs s1 R1 rvs q => ?_)
  obtain ⟨ds, e, hl, q⟩ := mDisp_inv q
  have k := datas_ok rvs e
  refine ⟨by rw [k.length, sizeLine_eq]; exact hl, fun p hp => ?_⟩
  obtain ⟨R2, r2⟩ := fresh_lst R1 hp k
  exact q F1 _ _ (Same.refl _) R2 r2
theorem fe_tup {x1} (h : FA X B W es ms) : FE X B W (.Tuple es x1 pos) (mTup ms) := let ⟨_, p, k⟩ := h; ⟨_, pe_tup p, .tup k⟩
theorem fe_lst (h : FA X B W es ms) : FE X B W (.List es pos) (mLst ms) := let ⟨_, p, k⟩ := h; ⟨_, pe_lst p, .lst k⟩
/-- a fresh tuple at p -/
theorem fresh_tup {σ : L2.St} {F H : Hp} {ρ : List L} (R1 : RelX X B F H σ ρ) {p : Addr} (hp : H p = none) {vs : List V} {ds : List Dt} (k : DrAll X.K X.mg F vs ds) : ∃ F2, Same F F2 ∧ RelX X B F2 (upd H p (.tup vs)) σ ρ ∧ Dr X.K X.mg F2 (.ref p) (.tup ds) := by
  have s2 := same_upd (u := HO.tup vs) (R1.fnone hp)
  exact ⟨_, s2, R1.alloc hp _, Dr.tup (.inl (.inl upd_same)) (k.mono s2)⟩
/-! ### built-in calls -/
theorem fe_callB {id : String} {r : List V → Hp → VK → Prop} {g : List R → M R} (hc : CallR X (.builtin id) r) (hs : CallS X B W r g) (hg : Gl X x) (hm : X.mg x = none) (hv : bootBuiltins x = some (.builtin id)) (ha : FA X B W (e :: es) ms) (hn : x ≠ "__name__" := by decide) (hdb : (x == ("__debug__" : Str)) = false := by decide)
    (he : starEach (e :: es) X.env = (false, eval e X.env) :: starEach es X.env := by rfl) (hpl : (backTo pos (starEach es X.env)).any (·.1) = false := by rfl) : FE X B W (.Call (.Name x p) (e :: es) [] pos) (M.bnd ms g) :=
  let ⟨_, pa, k⟩ := ha
  ⟨_, pe_callB hc hg hm hv pa hn hdb he hpl, fun F H σ ρ Q R0 q => k F H σ ρ _ R0 (q.bnd fun rs ρ1 F1 H1 vs s1 R1 rvs q2 => hs F1 H1 σ ρ1 vs rs Q R1 rvs q2)⟩
theorem fe_callTy {T : String} {r : List V → Hp → VK → Prop} {g : List R → M R} (hc : CallR X (.type T) r) (hs : CallS X B W r g) (hg : Gl X x) (hm : X.mg x = none) (hv : bootBuiltins x = some (.type T)) (ha : FA X B W (e :: es) ms) (hn : x ≠ "__name__" := by decide) (hdb : (x == ("__debug__" : Str)) = false := by decide)
    (he : starEach (e :: es) X.env = (false, eval e X.env) :: starEach es X.env := by rfl) (hpl : (backTo pos (starEach es X.env)).any (·.1) = false := by rfl) : FE X B W (.Call (.Name x p) (e :: es) [] pos) (M.bnd ms g) :=
  let ⟨_, pa, k⟩ := ha
  ⟨_, pe_callTy hc hg hm hv pa hn hdb he hpl, fun F H σ ρ Q R0 q => k F H σ ρ _ R0 (q.bnd fun rs ρ1 F1 H1 vs s1 R1 rvs q2 => hs F1 H1 σ ρ1 vs rs Q R1 rvs q2)⟩
/-- one thing looked at -/
def g1 (f : Dt → Option Dt) : List R → M R := fun as ρ => match as with
  | [a] => match a.dt ρ with
    | some d => match f d with
      | some z => .ok (.val z) ρ
      | none => .bad
    | none => .bad
  | _ => .bad
theorem g1_inv {σ : L2.St} {F : Hp} {ρ : List L} {f : Dt → Option Dt} {as : List R} {Q : VK} (p : Po X B W σ (RrX X B σ) F (g1 f as ρ) Q) : ∃ a d z, as = [a] ∧ a.dt ρ = some d ∧ f d = some z ∧ Po X B W σ (RrX X B σ) F (.ok (.val z) ρ) Q := by
  unfold g1 at p
  split at p
  · rename_i a
    cases h1 : a.dt ρ with
    | none => rw [h1] at p; exact p.elim
    | some d =>
      rw [h1] at p
      dsimp only at p
      cases h3 : f d with
      | none => rw [h3] at p; exact p.elim
      | some z => rw [h3] at p; exact ⟨a, d, z, rfl, h1, h3, p⟩
  · exact p.elim
theorem RrAll.one {σ : L2.St} {F H : Hp} {ρ : List L} {xs : List V} {a : R} (h : RrAll X B σ F H ρ xs [a]) : ∃ v, xs = [v] ∧ RrX X B σ F H ρ v a := by
  cases h with
  | cons h1 h2 => cases h2; exact ⟨_, rfl, h1⟩
theorem RrAll.two {σ : L2.St} {F H : Hp} {ρ : List L} {xs : List V} {a b : R} (h : RrAll X B σ F H ρ xs [a, b]) : ∃ v w, xs = [v, w] ∧ RrX X B σ F H ρ v a ∧ RrX X B σ F H ρ w b := by
  cases h with
  | cons h1 h2 =>
    obtain ⟨w, rfl, h3⟩ := h2.one
    exact ⟨_, _, rfl, h1, h3⟩
def dLen (d : Dt) : Option Dt := match d with
  | .str x => if x.length ≤ 16777216 then some (.int x.length) else none
  | d => match d.items with
    | some ds => some (.int ds.length)
    | none => none
theorem CallS.len : CallS X B W (fun xs H Q => ∃ x n, xs = [x] ∧ LenV X.K x H n ∧ Q (.int n) H) (g1 dLen) := fun F H σ ρ xs as Q R0 rs p => by
  obtain ⟨a, d, z, rfl, h1, h2, q⟩ := g1_inv p
  obtain ⟨v, rfl, ra⟩ := rs.one
  have fin : ∀ {n : Nat}, z = .int n → LenV X.K v H n → ∃ x n, [v] = [x] ∧ LenV X.K x H n ∧ Q (.int n) H := fun {n} e l => by
    subst e
    exact ⟨v, n, rfl, l, q F H _ (Same.refl _) R0 .int⟩
  have seq : ∀ {ds : List Dt}, d.items = some ds → z = .int ds.length → ∃ x n, [v] = [x] ∧ LenV X.K x H n ∧ Q (.int n) H := fun {ds} hi e => by
    obtain ⟨p, vs, rfl, hq, hd⟩ := R.items_ok R0 ra h1 hi
    refine fin e ?_
    rcases hq with hq | hq
    · exact .inl ⟨vs, hq, hd.length.symm⟩
    · exact .inr ⟨vs, hq, hd.length.symm⟩
  cases d with
  | str x =>
    have u := R.dt_ok R0 ra h1
    cases u
    dsimp only [dLen] at h2
    split at h2
    · rename_i h; cases h2; exact fin rfl ⟨by rw [sizeLine_eq]; exact h, rfl⟩
    · cases h2
  | tup l => cases h2; exact seq rfl rfl
  | lst l => cases h2; exact seq rfl rfl
  | wls l => cases h2; exact seq rfl rfl
  | _ => cases h2
theorem fe_len (hg : Gl X "len") (hm : X.mg "len" = none) (ha : FA X B W [e] ms) (he : starEach [e] X.env = (false, eval e X.env) :: starEach [] X.env := by rfl) : FE X B W (.Call (.Name "len" p) [e] [] pos) (M.bnd ms (g1 dLen)) :=
  fe_callB call_len .len hg hm PySem.boot_len ha (by decide) (by decide) he rfl
/-- two whole numbers -/
def g2I (f : Int → Int → Dt) : List R → M R := fun as => match as with
  | [.val (.int i), .val (.int j)] => M.ret (.val (f i j))
  | _ => M.no
theorem g2I_inv {σ : L2.St} {F H : Hp} {ρ : List L} {f : Int → Int → Dt} {as : List R} {xs : List V} {Q : VK} (rs : RrAll X B σ F H ρ xs as) (p : Po X B W σ (RrX X B σ) F (g2I f as ρ) Q) : ∃ i j, xs = [.int i, .int j] ∧ Po X B W σ (RrX X B σ) F (M.ret (.val (f i j)) ρ) Q := by
  unfold g2I at p
  split at p
  · rename_i i j
    obtain ⟨v, w, rfl, h1, h2⟩ := rs.two
    cases h1; cases h2
    exact ⟨i, j, rfl, p⟩
  · exact p.elim
theorem fe_min2 {f : Expr} (hc : X.calm = true) (hg : Gl X "min") (hm : X.mg "min" = none) (ha : FA X B W [e, f] ms) (he : starEach [e, f] X.env = (false, eval e X.env) :: starEach [f] X.env := by rfl) (hpl : (backTo pos (starEach [f] X.env)).any (·.1) = false := by rfl) : FE X B W (.Call (.Name "min" p) [e, f] [] pos) (M.bnd ms (g2I fun i j => .int (if j < i then j else i))) :=
  fe_callB (call_min2 hc) (fun F H σ ρ xs as Q R0 rs p => by
    obtain ⟨i, j, rfl, q⟩ := g2I_inv rs p
    exact ⟨i, j, rfl, q.ret R0 .int⟩) hg hm boot_min ha (by decide) (by decide) he hpl
theorem fe_max2 {f : Expr} (hc : X.calm = true) (hg : Gl X "max") (hm : X.mg "max" = none) (ha : FA X B W [e, f] ms) (he : starEach [e, f] X.env = (false, eval e X.env) :: starEach [f] X.env := by rfl) (hpl : (backTo pos (starEach [f] X.env)).any (·.1) = false := by rfl) : FE X B W (.Call (.Name "max" p) [e, f] [] pos) (M.bnd ms (g2I fun i j => .int (if j > i then j else i))) :=
  fe_callB (call_max2 hc) (fun F H σ ρ xs as Q R0 rs p => by
    obtain ⟨i, j, rfl, q⟩ := g2I_inv rs p
    exact ⟨i, j, rfl, q.ret R0 .int⟩) hg hm boot_max ha (by decide) (by decide) he hpl
def dInt (d : Dt) : Option Dt := match d with
  | .int i => some (.int i)
  | .bl k => some (.int (if k then 1 else 0))
  | _ => none
theorem fe_int1 (hg : Gl X "int") (hm : X.mg "int" = none) (ha : FA X B W [e] ms) (he : starEach [e] X.env = (false, eval e X.env) :: starEach [] X.env := by rfl) : FE X B W (.Call (.Name "int" p) [e] [] pos) (M.bnd ms (g1 dInt)) :=
  fe_callTy call_int1 (fun F H σ ρ xs as Q R0 rs p => by
    obtain ⟨a, d, z, rfl, h1, h2, q⟩ := g1_inv p
    obtain ⟨v, rfl, ra⟩ := rs.one
    have u := R.dt_ok R0 ra h1
    cases d with
    | int i => cases u; cases h2; exact .inl ⟨i, rfl, q F H _ (Same.refl _) R0 .int⟩
    | bl k => cases u; cases h2; exact .inr ⟨k, rfl, q F H _ (Same.refl _) R0 .int⟩
    | _ => cases h2) hg hm boot_int ha (by decide) (by decide) he rfl
/-! ### isinstance -/
/-- the built-in class's name; an instance has none here -/
def Dt.ty : Dt → Option String
  | .non => some "NoneType"
  | .bl _ => some "bool"
  | .int _ => some "int"
  | .str _ => some "str"
  | .tup _ => some "tuple"
  | .lst _ => some "list"
  | .wls _ => some "list"
  | .dic _ => some "dict"
  | .ins _ _ => none
theorem Dr.tyx {K : Fg} {mg : Mg} {H : Hp} {v : V} {d : Dt} {n : String} (h : Dr K mg H v d) (q : d.ty = some n) : TyX K H v (.type n) := by
  cases h with
  | non => cases q; exact .base .non
  | bl => cases q; exact .base (.bl _)
  | int => cases q; exact .base (.int _)
  | str _ => cases q; exact .base (.str _)
  | tup h1 _ =>
    cases q
    rcases h1 with (h | ⟨o, h⟩) | ⟨o, its, n, h, hc, _⟩
    · exact .base (.tup h)
    · exact .fTuple h
    · exact .kTuple h hc
  | lst h1 _ => cases q; exact .base (.lst h1)
  | wls h1 _ =>
    cases q
    rcases h1 with (h | ⟨o, h⟩) | ⟨o, its, n, h, hc, _⟩
    · exact .base (.lst h)
    · exact .base (.frz h)
    · exact .kList h hc
  | ins => cases q
  | dic h1 _ => cases q; exact .base (.dK h1)
/-- whether a thing is of one of these built-in classes: the classes' own table -/
def kitL (a : String) : List String → Option Bool
  | [] => some false
  | b :: bs => match kitB a b with
    | some true => some true
    | some false => kitL a bs
    | none => none
/-- the table for the classes that are asked here -/
def isaT (T : String) (a : String) : Option Bool :=
  if T = "int" then some (a == "int" || a == "bool") else if T = "bool" then some (a == "bool") else if T = "str" then some (a == "str") else if T = "list" then some (a == "list") else if T = "tuple" then some (a == "tuple") else none
def dIsa (Ts : List String) (d : Dt) : Option Dt := match d.ty with
  | some a => (Ts.foldr (fun T r => match isaT T a, r with
    | some b, some c => some (b || c)
    | _, _ => none) (some false)).map .bl
  | none => none
def tyNames : List String := ["NoneType", "bool", "int", "str", "tuple", "list", "dict"]
def askNames : List String := ["int", "bool", "str", "list", "tuple"]
theorem ty_names {d : Dt} {a : String} (h : d.ty = some a) : a ∈ tyNames := by
  cases d <;> cases h <;> decide
theorem isa_all : ∀ a ∈ tyNames, ∀ T ∈ askNames, kitB a T = isaT T a := by decide +kernel
theorem isa_ask {T a : String} {b : Bool} (h : isaT T a = some b) : T ∈ askNames := by
  unfold isaT at h
  repeat' split at h
  · subst_vars; decide
  · subst_vars; decide
  · subst_vars; decide
  · subst_vars; decide
  · subst_vars; decide
  · cases h
theorem isa_kit {K : Fg} {T a : String} {b : Bool} (ha : a ∈ tyNames) (h : isaT T a = some b) : PySem.W.kitOne K (.type a) (.type T) = some b := kit_ty ((isa_all a ha T (isa_ask h)).trans h)
theorem isa_any {K : Fg} {a : String} (ha : a ∈ tyNames) : ∀ {Ts : List String} {b : Bool}, (Ts.foldr (fun T r => match isaT T a, r with
    | some b, some c => some (b || c)
    | _, _ => none) (some false)) = some b → PySem.W.kitAny K (.type a) (Ts.map .type) = some b
  | [], b, h => by cases h; exact kitAny_nil
  | T :: Ts, b, h => by
    rw [List.foldr_cons] at h
    cases h1 : isaT T a with
    | none => rw [h1] at h; cases h
    | some c =>
      cases h2 : (Ts.foldr (fun T r => match isaT T a, r with
        | some b, some c => some (b || c)
        | _, _ => none) (some false)) with
      | none => rw [h1, h2] at h; cases h
      | some c2 =>
        rw [h1, h2] at h
        cases h
        refine kitAny_cons (isa_kit ha h1) (fun e => ?_) fun e => ?_
        · subst e; exact isa_any ha h2
        · subst e; rfl
end
def mIsa (Ts : List String) (m : M R) : M R := M.bnd m fun r => g1 (dIsa Ts) [r]
section
variable {X : Cx} {B : Bs} {W : WX} {e : Expr} {pos p p2 p3 : Pos} {x y : Str} {m : M R}
theorem isaT_eq {T a : String} {c : Dt} (h : (([T] : List String).foldr (fun T r => match isaT T a, r with
    | some b, some c => some (b || c)
    | _, _ => none) (some false)).map Dt.bl = some c) : ∃ b, isaT T a = some b ∧ c = .bl b := by
  simp only [List.foldr_cons, List.foldr_nil] at h
  cases h1 : isaT T a with
  | none => rw [h1] at h; cases h
  | some b => rw [h1] at h; cases h; exact ⟨b, rfl, by rw [Bool.or_false]⟩
/-- isinstance(e, T) -/
theorem fe_isa (T : String) (hg : Gl X "isinstance") (hm : X.mg "isinstance" = none) (hgt : Gl X x) (hmt : X.mg x = none) (hvt : bootBuiltins x = some (.type T)) (he : FE X B W e m) (hn : x ≠ "__name__" := by decide) (hd : (x == ("__debug__" : Str)) = false := by decide)
    (hs : starEach [e, .Name x p2] X.env = (false, eval e X.env) :: starEach [.Name x p2] X.env := by rfl) (hs2 : starEach [.Name x p2] X.env = (false, eval (.Name x p2) X.env) :: starEach [] X.env := by rfl) (hpl : (backTo pos (starEach [.Name x p2] X.env)).any (·.1) = false := by rfl) :
    FE X B W (.Call (.Name "isinstance" p) [e, .Name x p2] [] pos) (mIsa [T] m) := by
  obtain ⟨t, pe, k⟩ := he
  refine ⟨_, pe_callB call_isi hg hm boot_isinstance (pa_cons pe (pa_cons (pe_bltn hgt hmt hvt (v := .ty T) rfl hn hd) pa_nil hs2) hs) (by decide) (by decide) hs hpl, fun F H σ ρ Q R0 q => ?_⟩
  refine k F H σ ρ _ R0 (q.bnd fun r ρ1 F1 H1 v s1 R1 rv q2 => ?_)
  obtain ⟨a, d, z, ea, h1, h2, q3⟩ := g1_inv q2
  cases ea
  have u := R.dt_ok R1 rv h1
  unfold dIsa at h2
  cases h3 : d.ty with
  | none => rw [h3] at h2; cases h2
  | some n =>
    rw [h3] at h2
    obtain ⟨b, h4, rfl⟩ := isaT_eq h2
    exact ⟨v, .ty T, _, _, b, rfl, .ty T, u.tyx h3, isa_kit (ty_names h3) h4, q3 F1 H1 _ (Same.refl _) R1 .bl⟩
/-- isinstance(e, (T, U)) -/
theorem fe_isa2 (T U : String) {x1 : Nat} (hg : Gl X "isinstance") (hm : X.mg "isinstance" = none) (hgt : Gl X x) (hmt : X.mg x = none) (hvt : bootBuiltins x = some (.type T)) (hgu : Gl X y) (hmu : X.mg y = none) (hvu : bootBuiltins y = some (.type U)) (he : FE X B W e m)
    (hn : x ≠ "__name__" := by decide) (hd : (x == ("__debug__" : Str)) = false := by decide) (hn2 : y ≠ "__name__" := by decide) (hd2 : (y == ("__debug__" : Str)) = false := by decide) {pt : Pos}
    (hs : starEach [e, .Tuple [.Name x p2, .Name y p3] x1 pt] X.env = (false, eval e X.env) :: starEach [.Tuple [.Name x p2, .Name y p3] x1 pt] X.env := by rfl) (hs2 : starEach [.Tuple [.Name x p2, .Name y p3] x1 pt] X.env = (false, eval (.Tuple [.Name x p2, .Name y p3] x1 pt) X.env) :: starEach [] X.env := by rfl) (hpl : (backTo pos (starEach [.Tuple [.Name x p2, .Name y p3] x1 pt] X.env)).any (·.1) = false := by rfl)
    (hs3 : starEach [.Name x p2, .Name y p3] X.env = (false, eval (.Name x p2) X.env) :: starEach [.Name y p3] X.env := by rfl) (hs4 : starEach [.Name y p3] X.env = (false, eval (.Name y p3) X.env) :: starEach [] X.env := by rfl) :
    FE X B W (.Call (.Name "isinstance" p) [e, .Tuple [.Name x p2, .Name y p3] x1 pt] [] pos) (mIsa [T, U] m) := by
  obtain ⟨t, pe, k⟩ := he
  refine ⟨_, pe_callB call_isiT hg hm boot_isinstance (pa_cons pe (pa_cons (pe_tup (pa_cons (pe_bltn hgt hmt hvt (v := .ty T) rfl hn hd) (pa_cons (pe_bltn hgu hmu hvu (v := .ty U) rfl hn2 hd2) pa_nil hs4) hs3)) pa_nil hs2) hs) (by decide) (by decide) hs hpl, fun F H σ ρ Q R0 q => ?_⟩
  refine k F H σ ρ _ R0 (q.bnd fun r ρ1 F1 H1 v s1 R1 rv q2 => ?_)
  obtain ⟨a, d, z, ea, h1, h2, q3⟩ := g1_inv q2
  cases ea
  have u := R.dt_ok R1 rv h1
  unfold dIsa at h2
  cases h3 : d.ty with
  | none => rw [h3] at h2; cases h2
  | some n =>
    rw [h3] at h2
    refine ⟨by show 2 ≤ sizeLine; decide, fun tp htp => ?_⟩
    cases h4 : (([T, U] : List String).foldr (fun T r => match isaT T n, r with
      | some b, some c => some (b || c)
      | _, _ => none) (some false)) with
    | none => dsimp only at h2; rw [h4] at h2; cases h2
    | some b =>
      dsimp only at h2; rw [h4] at h2; cases h2
      have s2 := same_upd (u := HO.tup [V.ty T, V.ty U]) htp
      refine ⟨v, tp, _, _, _, b, rfl, upd_same, .cons (.ty T) (.cons (.ty U) .nil), (u.mono s2).tyx h3, isa_any (ty_names h3) h4, ?_⟩
      exact q3 _ _ _ (same_upd (R1.fnone htp)) (R1.alloc htp _) .bl
end
/-! ### subscripts -/
def dIx (d e : Dt) : Option Dt := match e with
  | .int i => match d.items with
    | some ds => atI ds i
    | none => none
  | _ => none
section
variable {X : Cx} {B : Bs} {W : WX} {a b : Expr} {pos : Pos} {ma mb : M R}
theorem DrAll.atI {K : Fg} {mg : Mg} {F : Hp} {vs : List V} {ds : List Dt} {i : Int} {z : Dt} (h : DrAll K mg F vs ds) (q : L2.atI ds i = some z) : ∃ v, L2.atI vs i = some v ∧ Dr K mg F v z := by
  unfold L2.atI at q ⊢
  rw [h.length]
  cases e : ixN ds.length i with
  | none => rw [e] at q; cases q
  | some j =>
    rw [e] at q
    exact h.getD q
theorem OpS.ix : OpS X B W (fun x y H Q => rIxL X.K x y H Q ∨ rIxT X.K x y H Q) (gD dIx) := fun F H σ ρ x y a b Q R0 ra rb p => by
  obtain ⟨d, e, z, h1, h2, h3, q⟩ := gD_inv p
  have w := R.dt_ok R0 rb h2
  unfold dIx at h3
  cases e with
  | int i =>
    cases w
    cases h4 : d.items with
    | none => rw [h4] at h3; cases h3
    | some ds =>
      rw [h4] at h3
      obtain ⟨p, vs, rfl, hq, hd⟩ := R.items_ok R0 ra h1 h4
      obtain ⟨v, e1, e2⟩ := hd.atI h3
      rcases hq with hq | hq
      · exact .inl ⟨p, vs, i, v, rfl, rfl, hq, e1, q F H _ (Same.refl _) R0 e2⟩
      · exact .inr ⟨p, vs, i, v, rfl, rfl, hq, e1, q F H _ (Same.refl _) R0 e2⟩
  | _ => cases h3
theorem fe_at (ha : FE X B W a ma) (hb : FE X B W b mb) (hs : PlainIx b := by exact fun _ _ => rfl) : FE X B W (.Subscript a b pos) (m2 (gD dIx) ma mb) := fe_ix (ix_list.or ix_tup) OpS.ix ha hb hs
end
/-! ### methods of a name's own list -/
def setO (i : Nat) (f : List Dt → Option (List Dt × Dt)) : M R := fun ρ => match ρ[i]? with
  | some (.own (.lst ds)) => match f ds with
    | some (es, z) => .ok (.val z) (ρ.set i (.own (.lst es)))
    | none => .bad
  | _ => .bad
/-- a list of its own stands at that name -/
def atO (i : Nat) (m : M R) : M R := fun ρ => match ρ[i]? with
  | some (.own (.lst _)) => m ρ
  | _ => .bad
def mAppend (i : Nat) (m : M R) : M R := atO i (M.bnd m fun r => match r with
  | .val d => setO i fun ds => if ds.length < 16777216 then some (ds ++ [d], .non) else none
  | _ => M.no)
def mPop (i : Nat) : M R := setO i fun ds => match ds[ds.length - 1]? with
  | some z => some (ds.dropLast, z)
  | none => none
def mReverse (i : Nat) : M R := setO i fun ds => some (ds.reverse, .non)
section
variable {X : Cx} {B : Bs} {W : WX} {e : Expr} {pos apos : Pos} {i : Nat} {x : Str} {m : M R}
theorem setO_inv {σ : L2.St} {F H : Hp} {ρ : List L} {f : List Dt → Option (List Dt × Dt)} {Q : VK} (R0 : RelX X B F H σ ρ) (p : Po X B W σ (RrX X B σ) F (setO i f ρ) Q) : ∃ ds es z a vs, ρ[i]? = some (.own (.lst ds)) ∧ f ds = some (es, z) ∧ σ[i]? = some (some (.ref a)) ∧ H a = some (.lst vs) ∧ DrAll X.K X.mg F vs ds ∧
    ∀ (ws : List V) (v : V), DrAll X.K X.mg F ws es → Dr X.K X.mg F v z → Q v (upd H a (.lst ws)) := by
  unfold setO at p
  split at p
  · rename_i ds hd
    split at p
    · rename_i es z hf
      obtain ⟨a, h1, h2, h3, vs, h4, h5⟩ := R0.own i _ hd
      exact ⟨ds, es, z, a, vs, hd, hf, h1, h4, h5, fun ws v k kz => p F _ v (Same.refl _) (R0.write hd h1 ⟨ws, upd_same, k⟩) kz⟩
    · exact p.elim
  · exact p.elim
theorem atO_inv {σ : L2.St} {F H : Hp} {ρ : List L} {n : M R} {Q : VK} (R0 : RelX X B F H σ ρ) (p : Po X B W σ (RrX X B σ) F (atO i n ρ) Q) : ∃ a vs, σ[i]? = some (some (.ref a)) ∧ H a = some (.lst vs) ∧ Po X B W σ (RrX X B σ) F (n ρ) Q := by
  unfold atO at p
  split at p
  · rename_i ds hd
    obtain ⟨a, h1, _, _, vs, h4, _⟩ := R0.own i _ hd
    exact ⟨a, vs, h1, h4, p⟩
  · exact p.elim
section
variable (hN : X.N[i]? = some x) (hv : Vis X.env.scope x) (hd : (x == ("__debug__" : Str)) = false) (hcd : (x == ("__classdict__" : Str)) = false)
include hN hv hd hcd
theorem fe_append' (he : FE X B W e m) {apos2 : Pos} (hbase : attributeBase (.Name x apos) "append" X.env (eval (.Name x apos) X.env) = eval (.Name x apos) X.env)
    (hfew : ((backTo pos (starEach [e] X.env)).all (fun x => !x.1) && (backToKw pos (keywordEach [] X.env)).all (fun x => x.1.isSome)
      && decide (([e]).length + ([] : List Keyword).length + (if ([] : List Keyword).isEmpty then 0 else 1) < 30)) = true)
    (hline : (apos2.endLine == pos.line) = true) (hs : starEach [e] X.env = (false, eval e X.env) :: starEach [] X.env) :
    FE X B W (.Call (.Attribute (.Name x apos) "append" apos2) [e] [] pos) (mAppend i m) := by
  obtain ⟨t, pe, k⟩ := he
  refine ⟨_, pe_bm PySem.F.plainAttrs_list PySem.F.slot_list_append PySem.F.type_list_append mt_append (pe_var hN hv hd hcd) (pa_cons pe pa_nil hs) hbase hfew hline hs rfl, fun F H σ ρ Q R0 q => ?_⟩
  obtain ⟨a, vs, h1, h2, q⟩ := atO_inv R0 q
  refine ⟨_, h1, .inl ⟨rfl, vs, SqL.of h2⟩, k F H σ ρ _ R0 (q.bnd fun r ρ1 F1 H1 v s1 R1 rv q2 => ?_)⟩
  split at q2
  · rename_i d
    obtain ⟨ds, es, z, a', ws, g1, g2, g3, g4, g5, g6⟩ := setO_inv R1 q2
    rw [h1] at g3; cases g3
    by_cases hl : ds.length < 16777216
    · rw [if_pos hl] at g2; cases g2
      exact ⟨a, ws, v, rfl, rfl, g4, by rw [g5.length, sizeLine_eq]; exact hl, g6 _ _ (g5.append (.one rv)) .non⟩
    · rw [if_neg hl] at g2; cases g2
  · exact q2.elim
theorem fe_pop' {apos2 : Pos} (hbase : attributeBase (.Name x apos) "pop" X.env (eval (.Name x apos) X.env) = eval (.Name x apos) X.env) (hline : (apos2.endLine == pos.line) = true) :
    FE X B W (.Call (.Attribute (.Name x apos) "pop" apos2) [] [] pos) (mPop i) := by
  refine ⟨_, pe_bm0 PySem.F.plainAttrs_list PySem.F.slot_list_pop PySem.F.type_list_pop mt_pop (pe_var hN hv hd hcd) hbase hline, fun F H σ ρ Q R0 q => ?_⟩
  obtain ⟨ds, es, z, a, ws, g1, g2, g3, g4, g5, g6⟩ := setO_inv R0 q
  cases e : ds[ds.length - 1]? with
  | none => rw [e] at g2; cases g2
  | some z' =>
    rw [e] at g2; cases g2
    obtain ⟨v, k1, k2⟩ := g5.getD e
    exact ⟨_, g3, .inl ⟨rfl, ws, SqL.of g4⟩, a, ws, v, rfl, rfl, g4, by rw [g5.length]; exact k1, g6 _ _ g5.dropLast k2⟩
theorem fe_reverse' {apos2 : Pos} (hbase : attributeBase (.Name x apos) "reverse" X.env (eval (.Name x apos) X.env) = eval (.Name x apos) X.env) (hline : (apos2.endLine == pos.line) = true) :
    FE X B W (.Call (.Attribute (.Name x apos) "reverse" apos2) [] [] pos) (mReverse i) := by
  refine ⟨_, pe_bm0 PySem.F.plainAttrs_list PySem.F.slot_list_reverse PySem.F.type_list_reverse mt_reverse (pe_var hN hv hd hcd) hbase hline, fun F H σ ρ Q R0 q => ?_⟩
  obtain ⟨ds, es, z, a, ws, g1, g2, g3, g4, g5, g6⟩ := setO_inv R0 q
  cases g2
  exact ⟨_, g3, .inl ⟨rfl, ws, SqL.of g4⟩, a, ws, rfl, rfl, g4, g6 _ _ g5.reverse .non⟩
end
theorem fe_append (i : Nat) {apos2 : Pos} (he : FE X B W e m) (hN : X.N[i]? = some x := by rfl) (hv : Vis X.env.scope x := by first | exact Or.inl rfl | exact Or.inr (Or.inl rfl) | exact Or.inr (Or.inr rfl)) (hd : (x == ("__debug__" : Str)) = false := by decide) (hcd : (x == ("__classdict__" : Str)) = false := by decide)
    (hbase : attributeBase (.Name x apos) "append" X.env (eval (.Name x apos) X.env) = eval (.Name x apos) X.env := by rfl)
    (hfew : ((backTo pos (starEach [e] X.env)).all (fun x => !x.1) && (backToKw pos (keywordEach [] X.env)).all (fun x => x.1.isSome)
      && decide (([e]).length + ([] : List Keyword).length + (if ([] : List Keyword).isEmpty then 0 else 1) < 30)) = true := by rfl)
    (hline : (apos2.endLine == pos.line) = true := by rfl) (hs : starEach [e] X.env = (false, eval e X.env) :: starEach [] X.env := by rfl) :
    FE X B W (.Call (.Attribute (.Name x apos) "append" apos2) [e] [] pos) (mAppend i m) := fe_append' hN hv hd hcd he hbase hfew hline hs
theorem fe_pop (i : Nat) {apos2 : Pos} (hN : X.N[i]? = some x := by rfl) (hv : Vis X.env.scope x := by first | exact Or.inl rfl | exact Or.inr (Or.inl rfl) | exact Or.inr (Or.inr rfl)) (hd : (x == ("__debug__" : Str)) = false := by decide) (hcd : (x == ("__classdict__" : Str)) = false := by decide)
    (hbase : attributeBase (.Name x apos) "pop" X.env (eval (.Name x apos) X.env) = eval (.Name x apos) X.env := by rfl) (hline : (apos2.endLine == pos.line) = true := by rfl) :
    FE X B W (.Call (.Attribute (.Name x apos) "pop" apos2) [] [] pos) (mPop i) := fe_pop' hN hv hd hcd hbase hline
theorem fe_reverse (i : Nat) {apos2 : Pos} (hN : X.N[i]? = some x := by rfl) (hv : Vis X.env.scope x := by first | exact Or.inl rfl | exact Or.inr (Or.inl rfl) | exact Or.inr (Or.inr rfl)) (hd : (x == ("__debug__" : Str)) = false := by decide) (hcd : (x == ("__classdict__" : Str)) = false := by decide)
    (hbase : attributeBase (.Name x apos) "reverse" X.env (eval (.Name x apos) X.env) = eval (.Name x apos) X.env := by rfl) (hline : (apos2.endLine == pos.line) = true := by rfl) :
    FE X B W (.Call (.Attribute (.Name x apos) "reverse" apos2) [] [] pos) (mReverse i) := fe_reverse' hN hv hd hcd hbase hline
end
end FL
namespace FL
open PySem PySem.Spec L2
open PyProof.Rows hiding St
/-! ### statements -/
def PoS (X : Cx) (B : Bs) (W : WX) (F : Hp) (D : Ends) (fl : Fl) : Prop :=
  match fl with
  | .nx ρ' => ∀ F' H' σ', Same F F' → RelX X B F' H' σ' ρ' → D.nx σ' H'
  | .rt r ρ' => ∀ F' H' σ' v, Same F F' → RelX X B F' H' σ' ρ' → RrX X B σ' F' H' ρ' v r → D.rt v H'
  | .bk ρ' => ∀ F' H' σ', Same F F' → RelX X B F' H' σ' ρ' → D.bk σ' H'
  | .ct ρ' => ∀ F' H' σ', Same F F' → RelX X B F' H' σ' ρ' → D.ct σ' H'
  | .er e ρ' => ∀ F' H' σ' C d, Same F F' → RelX X B F' H' σ' ρ' → ErAt X.K X.mg F' C d e → W C d σ' H'
  | .bad => False
def TkS (X : Cx) (B : Bs) (W : WX) (t : TS) (m : St') : Prop := ∀ (F H : Hp) (σ : L2.St) (ρ : List L) (D : Ends), RelX X B F H σ ρ → PoS X B W F D (m ρ) → t D σ H
def FS (X : Cx) (B : Bs) (W : WX) (st : Stmt) (m : St') : Prop := ∃ t, PS X st t ∧ TkS X B W t m
def FSs (X : Cx) (B : Bs) (W : WX) (st : List Stmt) (m : St') : Prop := ∃ t, PSs X st t ∧ TkS X B W t m
def sBnd {α : Type} (m : M α) (f : α → St') : St' := fun ρ => match m ρ with
  | .ok a ρ' => f a ρ'
  | .er e ρ' => .er e ρ'
  | .bad => .bad
def sNo : St' := fun _ => .bad
def sNx : St' := fun ρ => .nx ρ
def sSeq (m n : St') : St' := fun ρ => match m ρ with
  | .nx ρ' => n ρ'
  | fl => fl
section
variable {X : Cx} {B : Bs} {W : WX}
theorem PoS.mono {F F1 : Hp} {D : Ends} {fl : Fl} (s : Same F F1) (h : PoS X B W F D fl) : PoS X B W F1 D fl := by
  cases fl with
  | nx ρ' => exact fun F' H' σ' s' => h F' H' σ' (s.trans s')
  | rt r ρ' => exact fun F' H' σ' v s' => h F' H' σ' v (s.trans s')
  | bk ρ' => exact fun F' H' σ' s' => h F' H' σ' (s.trans s')
  | ct ρ' => exact fun F' H' σ' s' => h F' H' σ' (s.trans s')
  | er e ρ' => exact fun F' H' σ' C d s' => h F' H' σ' C d (s.trans s')
  | bad => exact h
theorem PoS.bnd {α β : Type} {rel : VR α β} {σ : L2.St} {F : Hp} {ρ : List L} {m : M β} {f : β → St'} {D : Ends} {Q1 : α → Hp → Prop} (h : PoS X B W F D (sBnd m f ρ))
    (k : ∀ r ρ1 F1 H1 v, Same F F1 → RelX X B F1 H1 σ ρ1 → rel F1 H1 ρ1 v r → PoS X B W F1 D (f r ρ1) → Q1 v H1) : Po X B W σ rel F (m ρ) Q1 := by
  unfold sBnd at h
  cases e : m ρ with
  | ok r ρ1 =>
    rw [e] at h
    exact fun F1 H1 v s1 R1 rv => k r ρ1 F1 H1 v s1 R1 rv (h.mono s1)
  | er er ρ1 =>
    rw [e] at h
    exact fun F1 H1 C d s1 R1 z => h F1 H1 σ C d s1 R1 z
  | bad => rw [e] at h; exact h
theorem PoS.seq {F : Hp} {D : Ends} {m n : St'} {ρ : List L} {σ : L2.St} {u : TS} (hu : TkS X B W u n) (h : PoS X B W F D (sSeq m n ρ)) : PoS X B W F { D with nx := u D } (m ρ) := by
  unfold sSeq at h
  cases e : m ρ with
  | nx ρ1 =>
    rw [e] at h
    exact fun F1 H1 σ1 s1 R1 => hu F1 H1 σ1 ρ1 D R1 (h.mono s1)
  | rt r ρ' => rw [e] at h; exact h
  | bk ρ' => rw [e] at h; exact h
  | ct ρ' => rw [e] at h; exact h
  | er e' ρ' => rw [e] at h; exact h
  | bad => rw [e] at h; exact h
variable {st : Stmt} {sts : List Stmt} {e : Expr} {pos pos' : Pos} {m n : St'} {me : M R} {mc : M Bool}
theorem fss_nil : FSs X B W [] sNx := ⟨_, pss_nil, fun F H σ ρ D R0 p => p F H σ (Same.refl _) R0⟩
theorem fss_cons (h : FS X B W st m) (g : FSs X B W sts n) : FSs X B W (st :: sts) (sSeq m n) := let ⟨_, p, k⟩ := h; let ⟨_, p2, k2⟩ := g; ⟨_, pss_cons p p2, fun F H σ ρ D R0 q => k F H σ ρ _ R0 (q.seq (σ := σ) k2)⟩
theorem fss_one (h : FS X B W st m) : FSs X B W [st] m := let ⟨_, p, k⟩ := h; ⟨_, pss_one p, k⟩
def sExpr (m : M R) : St' := sBnd m fun _ => sNx
theorem fs_expr (he : FE X B W e me) (hs : swapsWith e none pos.line X.env = pure false := by rfl) : FS X B W (.Expr e pos) (sExpr me) := let ⟨_, p, k⟩ := he; ⟨_, ps_expr p hs, fun F H σ ρ D R0 q => k F H σ ρ _ R0 (q.bnd fun r ρ1 F1 H1 v s1 R1 rv q2 => q2 F1 H1 σ (Same.refl _) R1)⟩
def sRet (m : M R) : St' := sBnd m fun r ρ => .rt r ρ
theorem fs_ret (he : FE X B W e me) : FS X B W (.Return (some e) pos) (sRet me) := let ⟨_, p, k⟩ := he; ⟨_, ps_ret p, fun F H σ ρ D R0 q => k F H σ ρ _ R0 (q.bnd fun r ρ1 F1 H1 v s1 R1 rv q2 => q2 F1 H1 σ v (Same.refl _) R1 rv)⟩
def sRetN : St' := fun ρ => .rt (.val .non) ρ
theorem fs_retN : FS X B W (.Return none pos) sRetN := ⟨_, ps_retN, fun F H σ ρ D R0 q => q F H σ .non (Same.refl _) R0 .non⟩
def sIf (c : M Bool) (m n : St') : St' := sBnd c fun b => if b = true then m else n
theorem fs_if {c : Expr} {a b : List Stmt} (hc : FT X B W c mc) (ha : FSs X B W a m) (hb : FSs X B W b n) : FS X B W (.If c a b pos) (sIf mc m n) := let ⟨_, p, k⟩ := hc; let ⟨_, p1, k1⟩ := ha; let ⟨_, p2, k2⟩ := hb
  ⟨_, ps_if p p1 p2, fun F H σ ρ D R0 q => k F H σ ρ _ R0 (q.bnd fun r ρ1 F1 H1 v s1 R1 rv q2 => by
    cases rv
    cases r with
    | true => exact k1 F1 H1 σ ρ1 D R1 q2
    | false => exact k2 F1 H1 σ ρ1 D R1 q2)⟩
def sBk : St' := fun ρ => .bk ρ
def sCt : St' := fun ρ => .ct ρ
theorem fs_pass : FS X B W (.Pass pos) sNx := ⟨_, ps_pass, fun F H σ ρ D R0 p => p F H σ (Same.refl _) R0⟩
theorem fs_break : FS X B W (.Break pos) sBk := ⟨_, ps_break, fun F H σ ρ D R0 p => p F H σ (Same.refl _) R0⟩
theorem fs_continue : FS X B W (.Continue pos) sCt := ⟨_, ps_continue, fun F H σ ρ D R0 p => p F H σ (Same.refl _) R0⟩
/-- name = e -/
def putR (i : Nat) (r : R) : St' := match r with
  | .val d => fun ρ => .nx (ρ.set i (.val d))
  | .own o => fun ρ => .nx (ρ.set i (.own o))
  | .bor _ => sNo
def sSet (i : Nat) (m : M R) : St' := sBnd m (putR i)
theorem putR_ok {F H : Hp} {σ : L2.St} {ρ : List L} {i : Nat} {r : R} {v : V} {D : Ends} (hi : i ∉ B.om) (R0 : RelX X B F H σ ρ) (rv : RrX X B σ F H ρ v r) (p : PoS X B W F D (putR i r ρ)) : D.nx (σ.set i (some v)) H := by
  cases r with
  | val d => exact p F H _ (Same.refl _) (R0.setVal rv hi)
  | own o =>
    obtain ⟨a, rfl, h1, h2, h3, h4⟩ := rv
    exact p F H _ (Same.refl _) (R0.setOwn h4 h1 h2 h3 hi)
  | bor j => exact p.elim
theorem fs_set' {i : Nat} {x : Str} (hi' : i ∉ B.om) (hN : X.N.Nodup) (hi : X.N[i]? = some x) (hx : Loc X.env.scope x) (he : FE X B W e me) (hs : swapsWith e (some (.Name x pos')) pos.line X.env = pure false) (hf : X.fn x = true ∨ X.env.scope.names.lookup x = some .local) :
    FS X B W (.Assign [.Name x pos'] e pos) (sSet i me) := let ⟨_, p, k⟩ := he
  ⟨_, ps_set hN hi hx p hs hf, fun F H σ ρ D R0 q => k F H σ ρ _ R0 (q.bnd fun r ρ1 F1 H1 v s1 R1 rv q2 => putR_ok hi' R1 rv q2)⟩
theorem fs_set (i : Nat) {x : Str} (hN : X.N.Nodup) (he : FE X B W e me) (hi' : B.om.contains i = false := by rfl) (hi : X.N[i]? = some x := by rfl) (hx : Loc X.env.scope x := by first | exact Or.inl rfl | exact Or.inr rfl) (hs : swapsWith e (some (.Name x pos')) pos.line X.env = pure false := by rfl) (hf : X.fn x = true ∨ X.env.scope.names.lookup x = some .local := by first | exact .inl rfl | exact .inr rfl) :
    FS X B W (.Assign [.Name x pos'] e pos) (sSet i me) := fs_set' (nmem hi') hN hi hx he hs hf
/-- a, b = e1, e2 -/
def sPar (i j : Nat) (ms : M (List R)) : St' := sBnd ms fun rs => match rs with
  | [.val d, .val e] => fun ρ => .nx ((ρ.set i (.val d)).set j (.val e))
  | _ => sNo
theorem tkS_par {i j : Nat} {t : TA} {ms : M (List R)} (hi : i ∉ B.om) (hj : j ∉ B.om) (k : TkA X B W t ms) : TkS X B W (tPar i j t) (sPar i j ms) := fun F H σ ρ D R0 q => k F H σ ρ _ R0 (q.bnd fun rs ρ1 F1 H1 vs s1 R1 rvs q2 => by
  split at q2
  · rename_i d e
    obtain ⟨v, w, rfl, h1, h2⟩ := rvs.two
    exact ⟨v, w, rfl, q2 F1 H1 _ (Same.refl _) ((R1.setVal h1 hi).setVal h2 hj)⟩
  · exact q2.elim)
/-! ### while -/
def sWhile : Nat → M Bool → St' → St'
  | 0, _, _ => sNo
  | n + 1, c, body => sBnd c fun b => if b = true then (fun ρ => match body ρ with
    | .nx ρ' => sWhile n c body ρ'
    | .ct ρ' => sWhile n c body ρ'
    | .bk ρ' => .nx ρ'
    | .rt r ρ' => .rt r ρ'
    | .er e ρ' => .er e ρ'
    | .bad => .bad) else sNx
theorem tkS_while {c : TT} {tb : TS} (N : Nat) (hc : TkT X B W c mc) (hb : TkS X B W tb m) : TkS X B W (tWhile c tb) (sWhile N mc m) := fun F H σ ρ D R0 q => by
  refine ⟨fun k σ H => ∃ F1 ρ1, RelX X B F1 H σ ρ1 ∧ PoS X B W F1 D (sWhile k mc m ρ1), ⟨N, F, ρ, R0, q⟩, ?_⟩
  rintro k σ1 H1 ⟨F1, ρ1, R1, q1⟩
  cases k with
  | zero => exact q1.elim
  | succ k =>
    refine hc F1 H1 σ1 ρ1 _ R1 (q1.bnd fun r ρ2 F2 H2 v s2 R2 rv q2 => ?_)
    cases rv
    cases r with
    | false => exact q2 F2 H2 σ1 (Same.refl _) R2
    | true =>
      refine ⟨fun σ' H' => ∃ F3 ρ3, RelX X B F3 H' σ' ρ3 ∧ PoS X B W F3 D (sWhile k mc m ρ3), fun σ' H' ⟨F3, ρ3, R3, q3⟩ => ⟨k, Nat.lt_succ_self _, F3, ρ3, R3, q3⟩, ?_⟩
      have q2 : PoS X B W F2 D (match m ρ2 with
        | .nx ρ' => sWhile k mc m ρ'
        | .ct ρ' => sWhile k mc m ρ'
        | .bk ρ' => .nx ρ'
        | .rt r ρ' => .rt r ρ'
        | .er e ρ' => .er e ρ'
        | .bad => .bad) := q2
      refine hb F2 H2 σ1 ρ2 _ R2 ?_
      cases e : m ρ2 with
      | nx ρ3 => rw [e] at q2; exact fun F3 H3 σ3 s3 R3 => ⟨F3, ρ3, R3, q2.mono s3⟩
      | ct ρ3 => rw [e] at q2; exact fun F3 H3 σ3 s3 R3 => ⟨F3, ρ3, R3, q2.mono s3⟩
      | bk ρ3 => rw [e] at q2; exact q2
      | rt r ρ3 => rw [e] at q2; exact q2
      | er er ρ3 => rw [e] at q2; exact q2
      | bad => rw [e] at q2; exact q2
theorem fs_while (N : Nat) {c : Expr} {body : List Stmt} (hp : PassesOwn (model X.prog X.w) X.A X.env X.xe) (hc : FT X B W c mc) (hb : FSs X B W body m) : FS X B W (.While c body [] pos) (sWhile N mc m) := let ⟨_, p, k⟩ := hc; let ⟨_, p2, k2⟩ := hb; ⟨_, ps_while hp p p2, tkS_while N k k2⟩
/-! ### for -/
/-- what an iterator yields -/
structure IWalk (X : Cx) (J : It) (F : Hp) (items : List Dt) : Prop where
  go : ∀ B i F1 H σ ρ, Same F F1 → RelX X B F1 H σ ρ → i < items.length → J.go i H
  yld : ∀ B i F1 H σ ρ x H' d, Same F F1 → RelX X B F1 H σ ρ → items[i]? = some d → J.yld i H x H' → ∃ F2, Same F1 F2 ∧ RelX X B F2 H' σ ρ ∧ Dr X.K X.mg F2 x d
  stop : ∀ B i F1 H σ ρ, Same F F1 → RelX X B F1 H σ ρ → items.length ≤ i → J.stop i H
theorem IWalk.mono {J : It} {F F1 : Hp} {items : List Dt} (w : IWalk X J F items) (s : Same F F1) : IWalk X J F1 items :=
  ⟨fun B i F2 H σ ρ s2 => w.go B i F2 H σ ρ (s.trans s2), fun B i F2 H σ ρ x H' d s2 => w.yld B i F2 H σ ρ x H' d (s.trans s2), fun B i F2 H σ ρ s2 => w.stop B i F2 H σ ρ (s.trans s2)⟩
def TkI (X : Cx) (B : Bs) (W : WX) (wi : TI) (m : M (List Dt)) : Prop := ∀ (F H : Hp) (σ : L2.St) (ρ : List L) (Q : It → Hp → Prop), RelX X B F H σ ρ → Po X B W σ (fun F H ρ J items => IWalk X J F items) F (m ρ) Q → wi σ H Q
def FI (X : Cx) (B : Bs) (W : WX) (tg iter : Expr) (m : M (List Dt)) : Prop := ∃ wi, PI X tg iter wi ∧ TkI X B W wi m
abbrev Gt := Dt → List L → Option (List L)
/-- the slots ts alone are changed -/
def Upto (ts : List Nat) (σ σ' : L2.St) : Prop := σ'.length = σ.length ∧ ∀ j, j ∉ ts → σ'[j]? = σ[j]?
def TkG (X : Cx) (B : Bs) (g : TG) (f : Gt) (ts : List Nat) : Prop := ∀ (F H : Hp) (σ : L2.St) (ρ ρ' : List L) (v : V) (d : Dt) (Q : L2.St → Hp → Prop), RelX X B F H σ ρ → Dr X.K X.mg F v d → f d ρ = some ρ' → (∀ σ', Upto ts σ σ' → RelX X B F H σ' ρ' → Q σ' H) → g v σ H Q
def FG (X : Cx) (B : Bs) (tg : Expr) (f : Gt) (ts : List Nat) : Prop := ∃ g, PG X tg g ∧ TkG X B g f ts
def gSet (i : Nat) : Gt := fun d ρ => some (ρ.set i (.val d))
theorem TkG.name {i : Nat} (hi : i ∉ B.om) : TkG X B (gName i) (gSet i) [i] := fun F H σ ρ ρ' v d Q R0 h e k => by
  cases e
  exact k _ ⟨List.length_set, fun j hj => List.getElem?_set_ne (fun z => hj (by simp [z]))⟩ (R0.setVal h hi)
theorem fg_name (i : Nat) {x : Str} (hN : X.N.Nodup) (hi' : B.om.contains i = false := by rfl) (hi : X.N[i]? = some x := by rfl) (hx : Loc X.env.scope x := by first | exact Or.inl rfl | exact Or.inr rfl) (hf : X.fn x = true ∨ X.env.scope.names.lookup x = some .local := by first | exact .inl rfl | exact .inr rfl) : FG X B (.Name x pos) (gSet i) [i] := ⟨_, pg_name hN hi hx hf, .name (nmem hi')⟩
/-- a tuple of targets -/
def TkGs (X : Cx) (B : Bs) (g : TGs) (f : List Dt → List L → Option (List L)) (ts : List Nat) : Prop := ∀ (F H : Hp) (σ : L2.St) (ρ ρ' : List L) (vs : List V) (ds : List Dt) (Q : L2.St → Hp → Prop), RelX X B F H σ ρ → DrAll X.K X.mg F vs ds → f ds ρ = some ρ' → (∀ σ', Upto ts σ σ' → RelX X B F H σ' ρ' → Q σ' H) → g vs σ H Q
def FGs (X : Cx) (B : Bs) (es : List Expr) (f : List Dt → List L → Option (List L)) (ts : List Nat) : Prop := ∃ g, PGs X es g ∧ TkGs X B g f ts
theorem Upto.refl (ts : List Nat) (σ : L2.St) : Upto ts σ σ := ⟨rfl, fun _ _ => rfl⟩
theorem Upto.trans {ts us : List Nat} {σ σ1 σ2 : L2.St} (h : Upto ts σ σ1) (g : Upto us σ1 σ2) : Upto (ts ++ us) σ σ2 := ⟨g.1.trans h.1, fun j hj => (g.2 j fun z => hj (List.mem_append_right _ z)).trans (h.2 j fun z => hj (List.mem_append_left _ z))⟩
def gsNil : List Dt → List L → Option (List L) := fun ds ρ => match ds with
  | [] => some ρ
  | _ => none
def gsCons (f : Gt) (g : List Dt → List L → Option (List L)) : List Dt → List L → Option (List L) := fun ds ρ => match ds with
  | d :: ds => match f d ρ with
    | some ρ1 => g ds ρ1
    | none => none
  | [] => none
def gTupD (n : Nat) (g : List Dt → List L → Option (List L)) : Gt := fun d ρ => match d with
  | .tup ds => if ds.length = n then g ds ρ else none
  | _ => none
theorem fgs_nil : FGs X B [] gsNil [] := ⟨_, pgs_nil, fun F H σ ρ ρ' vs ds Q R0 h e k => by
  cases ds with
  | nil => cases h; cases e; exact ⟨rfl, k _ (.refl _ _) R0⟩
  | cons d ds => cases e⟩
theorem fgs_cons {t : Expr} {ts : List Expr} {f : Gt} {g : List Dt → List L → Option (List L)} {us vs : List Nat} (h : FG X B t f us) (hs : FGs X B ts g vs) (hst : (assignEach (t :: ts) X.env).map (·.2) = assign t X.env :: (assignEach ts X.env).map (·.2) := by rfl) : FGs X B (t :: ts) (gsCons f g) (us ++ vs) :=
  let ⟨_, p, k⟩ := h; let ⟨_, p2, k2⟩ := hs
  ⟨_, pgs_cons p p2 hst, fun F H σ ρ ρ' vs ds Q R0 h e kk => by
    cases ds with
    | nil => cases e
    | cons d ds =>
      cases h with
      | cons h1 h2 =>
        cases e1 : f d ρ with
        | none => unfold gsCons at e; dsimp only at e; rw [e1] at e; cases e
        | some ρ1 =>
          unfold gsCons at e; dsimp only at e; rw [e1] at e
          exact ⟨_, _, rfl, k F H σ ρ ρ1 _ d _ R0 h1 e1 fun σ' u1 R1 => k2 F H σ' ρ1 ρ' _ ds Q R1 h2 e fun σ2 u2 R2 => kk σ2 (u1.trans u2) R2⟩⟩
theorem fg_tup {es : List Expr} {k : Nat} {n : Nat} {g : List Dt → List L → Option (List L)} {us : List Nat} (hc : X.calm = true) (h : FGs X B es g us) (hn : (assignEach es X.env).length = n := by rfl) (hst : (assignEach es X.env).findIdx? (·.1) = none := by rfl) : FG X B (.Tuple es k pos) (gTupD n g) us :=
  let ⟨_, p, kk⟩ := h
  ⟨_, pg_tup hc p hn hst, fun F H σ ρ ρ' v d Q R0 h e k => by
    unfold gTupD at e
    cases h with
    | tup h1 h2 =>
      rename_i a vs ds
      dsimp only at e
      by_cases hl : ds.length = n
      · rw [if_pos hl] at e
        exact ⟨_, _, rfl, Same.sqt R0.same h1, h2.length.trans hl, kk F H σ ρ ρ' vs ds Q R0 h2 e k⟩
      · rw [if_neg hl] at e; cases e
    | _ => cases e⟩
def sForL (g : Gt) (body : St') : List Dt → St'
  | [] => sNx
  | d :: ds => fun ρ => match g d ρ with
    | none => .bad
    | some ρ1 => match body ρ1 with
      | .nx ρ2 => sForL g body ds ρ2
      | .ct ρ2 => sForL g body ds ρ2
      | .bk ρ2 => .nx ρ2
      | .rt r ρ2 => .rt r ρ2
      | .er e ρ2 => .er e ρ2
      | .bad => .bad
def sFor (mi : M (List Dt)) (g : Gt) (body : St') : St' := sBnd mi fun items => sForL g body items
theorem tkS_for {wi : TI} {g : TG} {f : Gt} {tb : TS} {mi : M (List Dt)} {ts : List Nat} (hi : TkI X B W wi mi) (hg : TkG X B g f ts) (hb : TkS X B W tb m) : TkS X B W (tFor wi g tb) (sFor mi f m) := fun F H σ ρ D R0 q => by
  refine hi F H σ ρ _ R0 (q.bnd fun items ρ1 F1 H1 J s1 R1 w q1 => ?_)
  refine ⟨fun i k σ H => k = items.length - i ∧ i ≤ items.length ∧ ∃ F2 ρ2, Same F1 F2 ∧ RelX X B F2 H σ ρ2 ∧ PoS X B W F2 D (sForL f m (items.drop i) ρ2), ⟨items.length, rfl, Nat.zero_le _, F1, ρ1, Same.refl _, R1, q1⟩, ?_⟩
  rintro i k σ2 H2 ⟨rfl, hle, F2, ρ2, s2, R2, q2⟩
  by_cases hlt : i < items.length
  · refine .inr ⟨w.go B i F2 H2 σ2 ρ2 s2 R2 hlt, fun σ' H' => i + 1 ≤ items.length ∧ ∃ F3 ρ3, Same F1 F3 ∧ RelX X B F3 H' σ' ρ3 ∧ PoS X B W F3 D (sForL f m (items.drop (i + 1)) ρ3), fun σ' H' ⟨h1, h2⟩ => ⟨items.length - (i + 1), by omega, rfl, h1, h2⟩, fun x H' y => ?_⟩
    have hd : items[i]? = some items[i] := List.getElem?_eq_getElem hlt
    obtain ⟨F3, s3, R3, hx⟩ := w.yld B i F2 H2 σ2 ρ2 x H' items[i] s2 R2 hd y
    rw [List.drop_eq_getElem_cons hlt] at q2
    have q2 := q2.mono s3
    unfold sForL at q2
    cases e : f items[i] ρ2 with
    | none => rw [e] at q2; exact q2.elim
    | some ρ3 =>
      rw [e] at q2
      refine hg F3 H' σ2 ρ2 ρ3 x items[i] _ R3 hx e fun σ3 _ R4 => hb F3 H' σ3 ρ3 _ R4 ?_
      dsimp only at q2
      cases e2 : m ρ3 with
      | nx ρ4 => rw [e2] at q2; exact fun F4 H4 σ4 s4 R5 => ⟨hlt, F4, ρ4, (s2.trans s3).trans s4, R5, q2.mono s4⟩
      | ct ρ4 => rw [e2] at q2; exact fun F4 H4 σ4 s4 R5 => ⟨hlt, F4, ρ4, (s2.trans s3).trans s4, R5, q2.mono s4⟩
      | bk ρ4 => rw [e2] at q2; exact q2
      | rt r ρ4 => rw [e2] at q2; exact q2
      | er er ρ4 => rw [e2] at q2; exact q2
      | bad => rw [e2] at q2; exact q2
  · have he : i = items.length := by omega
    subst he
    rw [List.drop_length] at q2
    exact .inl ⟨w.stop B _ F2 H2 σ2 ρ2 s2 R2 (Nat.le_refl _), q2 F2 H2 σ2 (Same.refl _) R2⟩
theorem fs_for {tg iter : Expr} {body : List Stmt} {f : Gt} {mi : M (List Dt)} {ts : List Nat} (hp : PassesOwn (model X.prog X.w) X.A X.env X.xe) (hc : X.calm = true) (hi : FI X B W tg iter mi) (hg : FG X B tg f ts) (hb : FSs X B W body m) (hs : ∀ x, foldedSetIterable iter X.env x = pure x := by intro _; rfl) : FS X B W (.For tg iter body [] pos) (sFor mi f m) :=
  let ⟨_, p, k⟩ := hi; let ⟨_, p1, k1⟩ := hg; let ⟨_, p2, k2⟩ := hb; ⟨_, ps_for hp hc p p1 p2 hs, tkS_for k k1 k2⟩
/-! ### what is walked -/
theorem walk_range {F : Hp} (lo : Int) (n : Nat) : IWalk X (Itr lo n) F ((List.range n).map fun i : Nat => Dt.int (lo + i)) := by
  refine ⟨fun B i F1 H σ ρ s R1 hi => ?_, fun B i F1 H σ ρ x H' d s R1 hd y => ?_, fun B i F1 H σ ρ s R1 hi => ?_⟩
  · rw [List.length_map, List.length_range] at hi; exact hi
  · obtain ⟨rfl, rfl⟩ := y
    rw [List.getElem?_map] at hd
    cases e : (List.range n)[i]? with
    | none => rw [e] at hd; cases hd
    | some j =>
      rw [e] at hd; cases hd
      obtain ⟨h1, h2⟩ := List.getElem?_eq_some_iff.mp e
      rw [List.getElem_range] at h2
      subst h2
      exact ⟨F1, Same.refl _, R1, .int⟩
  · rw [List.length_map, List.length_range] at hi; exact hi
def rangeD (lo hi : Int) : List Dt := (List.range (hi - lo).toNat).map fun i : Nat => Dt.int (lo + i)
def small (i : Int) : Bool := decide (-(2 ^ 62) ≤ i) && decide (i < 2 ^ 62)
def mRange1 (ms : M (List R)) : M (List Dt) := M.bnd ms fun rs => match rs with
  | [.val (.int j)] => if small j = true then M.ret (rangeD 0 j) else M.no
  | _ => M.no
def mRange2 (ms : M (List R)) : M (List Dt) := M.bnd ms fun rs => match rs with
  | [.val (.int i), .val (.int j)] => if (small i && small j) = true then M.ret (rangeD i j) else M.no
  | _ => M.no
theorem small_iff {i : Int} : small i = true ↔ -(2 ^ 62) ≤ i ∧ i < 2 ^ 62 := by unfold small; simp
variable {tg : Expr} {ms : M (List R)} {p : Pos}
theorem fi_range1 {a : Expr} (hg : Gl X "range") (hm : X.mg "range" = none) (ha : FA X B W [a] ms) (hs : starEach [a] X.env = [(false, eval a X.env)] := by rfl) : FI X B W tg (.Call (.Name "range" p) [a] [] pos) (mRange1 ms) :=
  let ⟨_, pa, k⟩ := ha
  ⟨_, pi_range1 hg hm pa hs, fun F H σ ρ Q R0 q => k F H σ ρ _ R0 (q.bnd fun rs ρ1 F1 H1 vs s1 R1 rvs q2 => by
    split at q2
    · rename_i j
      obtain ⟨v, rfl, h1⟩ := rvs.one
      cases h1
      by_cases hj : small j = true
      · rw [if_pos hj] at q2
        obtain ⟨h1, h2⟩ := small_iff.mp hj
        refine ⟨j, rfl, h1, h2, q2 F1 H1 _ (Same.refl _) R1 ?_⟩
        have z := walk_range (X := X) (F := F1) 0 j.toNat
        unfold rangeD
        rw [Int.sub_zero]
        exact z
      · rw [if_neg hj] at q2; exact q2.elim
    · exact q2.elim)⟩
theorem fi_range2 {a b : Expr} (hg : Gl X "range") (hm : X.mg "range" = none) (ha : FA X B W [a, b] ms) (hs : starEach [a, b] X.env = [(false, eval a X.env), (false, eval b X.env)] := by rfl) (hs2 : starEach [b] X.env = [(false, eval b X.env)] := by rfl) : FI X B W tg (.Call (.Name "range" p) [a, b] [] pos) (mRange2 ms) :=
  let ⟨_, pa, k⟩ := ha
  ⟨_, pi_range2 hg hm pa hs hs2, fun F H σ ρ Q R0 q => k F H σ ρ _ R0 (q.bnd fun rs ρ1 F1 H1 vs s1 R1 rvs q2 => by
    split at q2
    · rename_i i j
      obtain ⟨v, w, rfl, h1, h2⟩ := rvs.two
      cases h1; cases h2
      by_cases hj : (small i && small j) = true
      · rw [if_pos hj] at q2
        obtain ⟨hi, hj⟩ := Bool.and_eq_true_iff.mp hj
        obtain ⟨h1, h2⟩ := small_iff.mp hi
        obtain ⟨h3, h4⟩ := small_iff.mp hj
        exact ⟨i, j, rfl, ⟨h1, h2, h3, h4⟩, q2 F1 H1 _ (Same.refl _) R1 (walk_range i (j - i).toNat)⟩
      · rw [if_neg hj] at q2; exact q2.elim
    · exact q2.elim)⟩
/-- a list that stands for good -/
def mItL (m : M R) : M (List Dt) := M.bnd m fun r => match r with
  | .val (.lst ds) => M.ret ds
  | .val (.wls ds) => M.ret ds
  | _ => M.no
def mItT (m : M R) : M (List Dt) := M.bnd m fun r => match r with
  | .val (.tup ds) => M.ret ds
  | _ => M.no
theorem walk_list {F : Hp} {a : Addr} {vs : List V} {ds : List Dt} (h : SqL X.K F a vs) (hd : DrAll X.K X.mg F vs ds) : IWalk X (Itl X.K a) F ds := by
  have hl := hd.length
  refine ⟨fun B i F1 H σ ρ s R1 hi => ⟨vs, vs[i]'(by omega), (s.trans R1.same).seq h, List.getElem?_eq_getElem (by omega)⟩, fun B i F1 H σ ρ x H' d s R1 e y => ?_, fun B i F1 H σ ρ s R1 hi => ⟨vs, (s.trans R1.same).seq h, by omega⟩⟩
  obtain ⟨rfl, y⟩ := y
  obtain ⟨v, e1, e2⟩ := hd.getD e
  rw [y vs ((s.trans R1.same).seq h)] at e1; cases e1
  exact ⟨F1, Same.refl _, R1, e2.mono s⟩
theorem walk_tup {F : Hp} {a : Addr} {vs : List V} {ds : List Dt} (h : SqT X.K F a vs) (hd : DrAll X.K X.mg F vs ds) : IWalk X (Itt X.K a) F ds := by
  have hl := hd.length
  refine ⟨fun B i F1 H σ ρ s R1 hi => ⟨vs, vs[i]'(by omega), Same.sqt (s.trans R1.same) h, List.getElem?_eq_getElem (by omega)⟩, fun B i F1 H σ ρ x H' d s R1 e y => ?_, fun B i F1 H σ ρ s R1 hi => ⟨vs, Same.sqt (s.trans R1.same) h, by omega⟩⟩
  obtain ⟨rfl, y⟩ := y
  obtain ⟨v, e1, e2⟩ := hd.getD e
  rw [y vs (Same.sqt (s.trans R1.same) h)] at e1; cases e1
  exact ⟨F1, Same.refl _, R1, e2.mono s⟩
variable {l : Expr}
theorem fi_list (hl : FE X B W l me) : FI X B W tg l (mItL me) :=
  let ⟨_, pa, k⟩ := hl
  ⟨_, pi_list pa, fun F H σ ρ Q R0 q => k F H σ ρ _ R0 (q.bnd fun r ρ1 F1 H1 v s1 R1 rv q2 => by
    split at q2
    · cases rv with
      | lst h1 h2 => exact ⟨_, rfl, ⟨_, SqL.of (R1.same _ _ h1)⟩, q2 F1 H1 _ (Same.refl _) R1 (walk_list (SqL.of h1) h2)⟩
    · cases rv with
      | wls h1 h2 => exact ⟨_, rfl, ⟨_, R1.same.seq h1⟩, q2 F1 H1 _ (Same.refl _) R1 (walk_list h1 h2)⟩
    · exact q2.elim)⟩
theorem fi_tup (hl : FE X B W l me) : FI X B W tg l (mItT me) :=
  let ⟨_, pa, k⟩ := hl
  ⟨_, pi_tup pa, fun F H σ ρ Q R0 q => k F H σ ρ _ R0 (q.bnd fun r ρ1 F1 H1 v s1 R1 rv q2 => by
    split at q2
    · cases rv with
      | tup h1 h2 => exact ⟨_, rfl, ⟨_, Same.sqt R1.same h1⟩, q2 F1 H1 _ (Same.refl _) R1 (walk_tup h1 h2)⟩
    · exact q2.elim)⟩
end
end FL
namespace FL
open PySem PySem.Spec L2
open PyProof.Rows hiding St
/-! ### what a def promises: the mirror's answer -/
abbrev FM := List L → Out R
structure ArgOk (K : Fg) (mg : Mg) (om : List Nat) (F H0 : Hp) (vs : List V) (ls : List L) : Prop where
  len : vs.length = ls.length
  same : Same F H0
  val : ∀ (i : Nat) (d : Dt), ls[i]? = some (.val d) → ∃ v, vs[i]? = some v ∧ Dr K mg F v d
  own : ∀ (i : Nat) (o : Ob), ls[i]? = some (.own o) → i ∈ om ∧ ∃ a, vs[i]? = some (.ref a) ∧ F a = none ∧ ObAt K mg F H0 a o
  omo : ∀ k ∈ om, ∃ o, ls[k]? = some (L.own o)
  sep : ∀ (i j : Nat) (a : Addr), i ∈ om → j ∈ om → vs[i]? = some (.ref a) → vs[j]? = some (.ref a) → i = j
  noe : ∀ (i : Nat) (e : Er), ls[i]? ≠ some (.exc e)
def parV (om : List Nat) (vs : List V) (a : Addr) : Prop := ∃ k ∈ om, vs[k]? = some (.ref a)
structure FRel (K : Fg) (mg : Mg) (om : List Nat) (F H0 : Hp) (vs : List V) (F' H' : Hp) (ls' : List L) : Prop where
  sameF : Same F F'
  same : Same F' H'
  keep : ∀ b o, H0 b = some o → ¬ parV om vs b → H' b = some o
  low : ∀ b o, F' b = some o → F b = some o ∨ H0 b = none ∨ parV om vs b
  live : ∀ a, parV om vs a → ∃ u, H' a = Option.some u
  own : ∀ k ∈ om, ∀ a, vs[k]? = some (.ref a) → (∀ o, ls'[k]? = some (L.own o) → F' a = none ∧ ObAt K mg F' H' a o) ∧ ∀ d, ls'[k]? = some (L.val d) → Dr K mg F' (.ref a) d
def Rr0 (K : Fg) (mg : Mg) (H0 F' H' : Hp) (v : V) : R → Prop
  | .val d => Dr K mg F' v d
  | .own o => ∃ a, v = .ref a ∧ F' a = none ∧ H0 a = none ∧ ObAt K mg F' H' a o
  | .bor _ => False
def PoF (K : Fg) (mg : Mg) (om : List Nat) (F H0 : Hp) (vs : List V) (out : Out R) (Q : VK) (E : XK) : Prop :=
  match out with
  | .ok r ls' => ∀ F' H' v, FRel K mg om F H0 vs F' H' ls' → Rr0 K mg H0 F' H' v r → Q v H'
  | .er e ls' => ∀ F' H' C d, FRel K mg om F H0 vs F' H' ls' → ErAt K mg F' C d e → E C d H'
  | .bad => False
def spM (K : Fg) (mg : Mg) (n : Nat) (om : List Nat) (f : FM) : Sp := fun vs H0 Q E => vs.length = n ∧ ∃ F ls, ArgOk K mg om F H0 vs ls ∧ PoF K mg om F H0 vs (f ls) Q E
def mFn (nN n : Nat) (m : St') : FM := fun ls => match m (ls ++ List.replicate (nN - n) .non) with
  | .nx ρ => .ok (.val .non) (ρ.take n)
  | .rt (.bor _) _ => .bad
  | .rt (.val d) ρ => .ok (.val d) (ρ.take n)
  | .rt (.own o) ρ => .ok (.own o) (ρ.take n)
  | .er e ρ => .er e (ρ.take n)
  | _ => .bad
section
variable {K : Fg} {mg : Mg} {om : List Nat} {F H0 F' H' : Hp} {N : List Str} {vs : List V} {ls ρ' : List L} {σ' : L2.St}
theorem start_get {i : Nat} {v : V} (h : vs[i]? = some v) : (start N vs)[i]? = some (some v) := by
  unfold L2.start
  obtain ⟨hl, _⟩ := List.getElem?_eq_some_iff.mp h
  rw [List.getElem?_append_left (by simpa using hl), List.getElem?_map, h]
  rfl
theorem get_rep {α : Type} {l : List α} {n i : Nat} {x y : α} (h : (l ++ List.replicate n x)[i]? = some y) (hy : y ≠ x) : l[i]? = some y := by
  by_cases hl : i < l.length
  · rw [List.getElem?_append_left hl] at h; exact h
  · rw [List.getElem?_append_right (by omega), List.getElem?_replicate] at h
    split at h
    · cases h; exact absurd rfl hy
    · cases h
theorem start_inv {i : Nat} {v : V} (h : (start N vs)[i]? = some (some v)) : vs[i]? = some v := by
  unfold L2.start at h
  have q := get_rep h (by simp)
  rw [List.getElem?_map] at q
  cases e : vs[i]? with
  | none => rw [e] at q; cases q
  | some w => rw [e] at q; cases q; rfl
def baseOf (om : List Nat) (F H0 : Hp) (N : List Str) (vs : List V) : Bs := ⟨F, H0, om, start N vs, none, fun _ => none⟩
theorem parV_iff {a : Addr} : (baseOf om F H0 N vs).par a ↔ parV om vs a := by
  constructor
  · rintro ⟨k, hk, e⟩; exact ⟨k, hk, start_inv e⟩
  · rintro ⟨k, hk, e⟩; exact ⟨k, hk, start_get e⟩
theorem ArgOk.rel (h : ArgOk K mg om F H0 vs ls) (hN : vs.length ≤ N.length) : Rel K mg (baseOf om F H0 N vs) F H0 (start N vs) (ls ++ List.replicate (N.length - vs.length) .non) := by
  refine ⟨?_, Same.refl _, h.same, fun b o e _ => e, fun b o e => .inl e, fun i d e => ?_, fun i o e => ?_, fun i j a o o' e1 e2 e3 e4 => ?_, fun k _ => rfl, fun a ha => ?_, fun i e q => absurd (get_rep q (by simp)) (h.noe i e), fun b o e => (nomatch e), fun b o e => (nomatch e), fun i o a _ _ => rfl⟩
  · unfold L2.start
    simp only [List.length_append, List.length_map, List.length_replicate, h.len]
  · obtain ⟨v, h1, h2⟩ := h.val i d (get_rep e (by simp))
    exact ⟨v, start_get h1, h2⟩
  · obtain ⟨hi, a, h1, h2, h3⟩ := h.own i o (get_rep e (by simp))
    exact ⟨a, start_get h1, h2, .inr hi, h3⟩
  · exact h.sep i j a (h.own i o (get_rep e1 (by simp))).1 (h.own j o' (get_rep e2 (by simp))).1 (start_inv e3) (start_inv e4)
  · obtain ⟨k, hk, e⟩ := parV_iff.mp ha
    obtain ⟨o, ho⟩ := h.omo k hk
    obtain ⟨_, b, h1, h2, h3⟩ := h.own k o ho
    rw [e] at h1; cases h1
    exact h3.some
theorem Rel.frel (r : Rel K mg (baseOf om F H0 N vs) F' H' σ' ρ') {n : Nat} (hom : ∀ k ∈ om, k < n) : FRel K mg om F H0 vs F' H' (ρ'.take n) := by
  refine ⟨r.same0, r.same, fun b o e hp => r.keep b o e fun z => hp (parV_iff.mp z), fun b o e => (r.low b o e).imp id fun z => z.imp id parV_iff.mp, fun a ha => r.live a (parV_iff.mpr ha), fun k hk a e => ⟨fun o q => ?_, fun d q => ?_⟩⟩
  · rw [List.getElem?_take_of_lt (hom k hk)] at q
    obtain ⟨b, h1, h2, _, h4⟩ := r.own k o q
    rw [r.pin k hk] at h1
    have := start_inv (N := N) (vs := vs) h1
    rw [e] at this; cases this
    exact ⟨h2, h4⟩
  · rw [List.getElem?_take_of_lt (hom k hk)] at q
    obtain ⟨v, h1, h2⟩ := r.val k d q
    rw [r.pin k hk] at h1
    have := start_inv (N := N) (vs := vs) h1
    rw [e] at this; cases this
    exact h2
end
abbrev WF (E : XK) : WX := fun cls d _ H => E cls d H
section
variable {P : Program} {w : World} {K : Fg} {mg : Mg} {base : Heap}
/-- THE RULE for a def: its body's mirror -/
theorem fn_ok {x qual : Str} {st : Stmt} {f : Addr} {fd : FuncData} {N ps : List Str} {k : Nat} {m : St'} {om : List Nat} (Fu : Fun K x qual st f fd) (S : FnScope N ps (defScope st)) (hom : ∀ k ∈ om, k < ps.length)
    (hb : ∀ (cdv : Value) (A : Around) (outer : List Env) (s : Shared) (H : Hp) (E : XK) (Fe H0 : Hp) (s0 : L2.St), Room k (cxOf (L2.CX P w) P w K mg base N qual (defScope st) f cdv A outer s H E).A → Takes (cxOf (L2.CX P w) P w K mg base N qual (defScope st) f cdv A outer s H E) (WF E) →
      FSs (cxOf (L2.CX P w) P w K mg base N qual (defScope st) f cdv A outer s H E) ⟨Fe, H0, om, s0, none, fun _ => none⟩ (WF E) (defBody st) m) :
    FnOk P w K mg base (L2.CX P w) (k + 1) f fd ps (spM K mg ps.length om (mFn N.length ps.length m)) := by
  have hpl : ps.length ≤ N.length := by have := congrArg List.length S.pre; rw [List.length_take] at this; omega
  refine Fu.okX S (fun vs H Q E h => h.1) fun cdv A outer s H vs Q E hr h => ?_
  obtain ⟨hl, F, ls, ha, po⟩ := h
  obtain ⟨t, pt, k⟩ := hb cdv A outer s H E F H (start N vs) hr (takes_of rfl rfl rfl rfl)
  refine ⟨t, pt, k F H (start N vs) _ _ (ha.rel (N := N) (by omega)) ?_⟩
  unfold mFn at po
  rw [← hl] at po
  cases e : m (ls ++ List.replicate (N.length - vs.length) .non) with
  | nx ρ => rw [e] at po; exact fun F' H' σ' s1 R1 => po F' H' .non (R1.frel (by rw [hl]; exact hom)) .non
  | rt r ρ =>
    rw [e] at po
    cases r with
    | val d => exact fun F' H' σ' v s1 R1 rv => po F' H' v (R1.frel (by rw [hl]; exact hom)) rv
    | own o => exact fun F' H' σ' v s1 R1 rv => po F' H' v (R1.frel (by rw [hl]; exact hom)) (let ⟨a, e, h1, h2, _, h4⟩ := rv; ⟨a, e, h1, h2.1, h4⟩)
    | bor i => exact po.elim
  | bk ρ => rw [e] at po; exact po.elim
  | ct ρ => rw [e] at po; exact po.elim
  | er er ρ => rw [e] at po; exact fun F' H' σ' C d s1 R1 z => po F' H' C d (R1.frel (by rw [hl]; exact hom)) z
  | bad => rw [e] at po; exact po.elim
end
/-! ### calls -/
def vals : List R → Option (List L)
  | [] => some []
  | .val d :: rs => (vals rs).map (L.val d :: ·)
  | _ :: _ => none
/-- f(..), nothing lent -/
def mCall (n : Nat) (f : FM) (ms : M (List R)) : M R := M.bnd ms fun rs ρ => if rs.length = n then (match vals rs with
  | some ls => match f ls with
    | .ok r _ => .ok r ρ
    | .er e _ => .er e ρ
    | .bad => .bad
  | none => .bad) else .bad
/-- f(.., x, ..), the own list of the name x lent at the place k -/
def L.back : L → L
  | .exc _ => .non
  | l => l
theorem L.back_val {l : L} {d : Dt} (h : l.back = .val d) : l = .val d := by cases l <;> first | exact h | cases h
theorem L.back_own {l : L} {o : Ob} (h : l.back = .own o) : l = .own o := by cases l <;> first | exact h | cases h
theorem L.back_exc {l : L} {e : Er} (h : l.back = .exc e) : False := by cases l <;> cases h
def mCallO (n k : Nat) (f : FM) (ms : M (List R)) : M R := M.bnd ms fun rs ρ => if rs.length = n then (match rs[k]? with
  | some (.bor i) => match ρ[i]? with
    | some (.own o) => match vals (rs.set k (.val .non)) with
      | some ls => match f (ls.set k (.own o)) with
        | .ok r ls' => match ls'[k]? with
          | some l => .ok r (ρ.set i l.back)
          | none => .bad
        | .er e ls' => match ls'[k]? with
          | some l => .er e (ρ.set i l.back)
          | none => .bad
        | .bad => .bad
      | none => .bad
    | _ => .bad
  | _ => .bad) else .bad
section
variable {X : Cx} {B : Bs} {W : WX} {σ : L2.St} {F H : Hp} {ρ : List L}
theorem vals_len : ∀ {rs : List R} {ls : List L}, vals rs = some ls → ls.length = rs.length
  | [], _, h => by cases h; rfl
  | .val d :: rs, _, h => by
    unfold vals at h
    cases e : vals rs with
    | none => rw [e] at h; cases h
    | some l => rw [e] at h; cases h; simp only [List.length_cons, vals_len e]
  | .own _ :: _, _, h => by cases h
  | .bor _ :: _, _, h => by cases h
theorem vals_get : ∀ {rs : List R} {ls : List L} {i : Nat} {l : L}, vals rs = some ls → ls[i]? = some l → ∃ d, l = .val d ∧ rs[i]? = some (.val d)
  | [], _, _, _, h, g => by cases h; simp at g
  | .val d :: rs, _, i, l, h, g => by
    unfold vals at h
    cases e : vals rs with
    | none => rw [e] at h; cases h
    | some ls' =>
      rw [e] at h; cases h
      cases i with
      | zero => simp at g; subst g; exact ⟨d, rfl, rfl⟩
      | succ i =>
        obtain ⟨d', h1, h2⟩ := vals_get (i := i) (l := l) e (by simpa using g)
        exact ⟨d', h1, by simpa using h2⟩
  | .own _ :: _, _, _, _, h, _ => by cases h
  | .bor _ :: _, _, _, _, h, _ => by cases h
theorem RrAll.get : ∀ {vs : List V} {rs : List R} {i : Nat} {r : R}, RrAll X B σ F H ρ vs rs → rs[i]? = some r → ∃ v, vs[i]? = some v ∧ RrX X B σ F H ρ v r
  | _, [], _, _, _, g => by simp at g
  | _, _ :: _, 0, _, .cons h _, g => by simp at g; subst g; exact ⟨_, rfl, h⟩
  | _, _ :: _, i + 1, _, .cons _ h, g => by
    obtain ⟨v, h1, h2⟩ := RrAll.get (i := i) h (by simpa using g)
    exact ⟨v, by simpa using h1, h2⟩
theorem RrAll.length : ∀ {vs : List V} {rs : List R}, RrAll X B σ F H ρ vs rs → vs.length = rs.length
  | _, _, .nil => rfl
  | _, _, .cons _ h => by simp only [List.length_cons, RrAll.length h]
theorem args_val (R0 : RelX X B F H σ ρ) {vs : List V} {rs : List R} {ls : List L} (h : RrAll X B σ F H ρ vs rs) (e : vals rs = some ls) : ArgOk X.K X.mg [] F H vs ls := by
  refine ⟨by rw [h.length, vals_len e], R0.same, fun i d g => ?_, fun i o g => ?_, fun k hk => (nomatch hk), fun i j a hi => (nomatch hi), fun i e' q => by
    obtain ⟨d', h1, h2⟩ := vals_get e q
    cases h1⟩
  · obtain ⟨d', h1, h2⟩ := vals_get e g
    cases h1
    exact h.get h2
  · obtain ⟨d', h1, h2⟩ := vals_get e g
    cases h1
theorem noPar {vs : List V} {a : Addr} : ¬ parV [] vs a := by rintro ⟨k, hk, _⟩; cases hk
/-- behind a call to which nothing was lent -/
theorem Rel.after0 (R0 : RelX X B F H σ ρ) {vs : List V} {F' H' : Hp} {ls' : List L} (f : FRel X.K X.mg [] F H vs F' H' ls') : RelX X B F' H' σ ρ := by
  have kp : ∀ b o, H b = some o → H' b = some o := fun b o e => f.keep b o e noPar
  refine ⟨R0.len, R0.same0.trans f.sameF, f.same, fun b o e hp => kp b o (R0.keep b o e hp), fun b o e => ?_, fun i d e => ?_, fun i o e => ?_, R0.sep, R0.pin, fun a ha => (R0.live a ha).imp fun u hu => kp _ _ hu, fun i e q => let ⟨a, C, d, h1, h2, h3⟩ := R0.exc i e q; ⟨a, C, d, h1, h2, h3.mono f.sameF⟩, fun b o e => kp _ _ (R0.prot b o e), (fun b o e => by
    cases q : F' b with
    | none => rfl
    | some o' =>
      rcases f.low b o' q with h | h | h
      · rw [R0.prF b o e] at h; cases h
      · rw [R0.prot b o e] at h; cases h
      · exact absurd h noPar), R0.opr⟩
  · rcases f.low b o e with h | h | h
    · exact R0.low b o h
    · exact .inr (.inl (R0.new0 h))
    · exact absurd h noPar
  · obtain ⟨v, h1, h2⟩ := R0.val i d e
    exact ⟨v, h1, h2.mono f.sameF⟩
  · obtain ⟨a, h1, h2, h3, h4⟩ := R0.own i o e
    obtain ⟨u, hu⟩ := h4.some
    refine ⟨a, h1, ?_, h3, h4.mono f.sameF ((kp _ _ hu).trans hu.symm)⟩
    cases q : F' a with
    | none => rfl
    | some o' =>
      rcases f.low a o' q with h | h | h
      · rw [h2] at h; cases h
      · rw [hu] at h; cases h
      · exact absurd h noPar
theorem Rr.of0 (R0 : RelX X B F H σ ρ) {F' H' : Hp} {v : V} : ∀ {r : R}, Rr0 X.K X.mg H F' H' v r → RrX X B σ F' H' ρ v r
  | .val d, h => h
  | .bor _, h => h.elim
  | .own o, h => by
    obtain ⟨a, e, h1, h2, h3⟩ := h
    refine ⟨a, e, h1, R0.newF h2, fun j o' q z => ?_, h3⟩
    obtain ⟨b, g1, _, _, g4⟩ := R0.own j o' q
    rw [z] at g1; cases g1
    obtain ⟨u, hu⟩ := g4.some
    rw [h2] at hu; cases hu
variable {e : Expr} {es : List Expr} {pos p : Pos} {x : Str} {ms : M (List R)} {k n : Nat} {f : Addr} {fd : FuncData} {ps : List Str} {fm : FM}
theorem Tk.call {t : TA} (h : TkA X B W t ms) : Tk X B W (tCallS (spM X.K X.mg n [] fm) (WE W) t) (mCall n fm ms) := fun F H σ ρ Q R0 q => by
  refine h F H σ ρ _ R0 (q.bnd fun rs ρ1 F1 H1 vs s1 R1 rvs q2 => ?_)
  by_cases hn : rs.length = n
  · rw [if_pos hn] at q2
    cases e : vals rs with
    | none => rw [e] at q2; exact q2.elim
    | some ls =>
      rw [e] at q2
      refine ⟨rvs.length.trans hn, F1, ls, args_val R1 rvs e, ?_⟩
      dsimp only at q2
      cases e2 : fm ls with
      | ok r ls' => rw [e2] at q2; exact fun F' H' v fr rv => q2 F' H' v fr.sameF (R1.after0 fr) (Rr.of0 R1 rv)
      | er er ls' => rw [e2] at q2; exact fun F' H' C d fr z => q2 F' H' C d fr.sameF (R1.after0 fr) z
      | bad => rw [e2] at q2; exact q2
  · rw [if_neg hn] at q2; exact q2.elim
theorem fe_call (G : FnOk X.prog X.w X.K X.mg X.base (L2.CX X.prog X.w) k f fd ps (spM X.K X.mg n [] fm)) (hr : Room k X.A) (hg : Gl X x) (hm : X.mg x = some (.ref f)) (hk : PySem.W.keepIn X.K (.ref f) = true) (hb : Binds X.K fd ps []) (tk : Takes X W)
    (ha : FA X B W (e :: es) ms) (hdb : (x == ("__debug__" : Str)) = false := by decide) (he : starEach (e :: es) X.env = (false, eval e X.env) :: starEach es X.env := by rfl) (hpl : (backTo pos (starEach es X.env)).any (·.1) = false := by rfl) :
    FE X B W (.Call (.Name x p) (e :: es) [] pos) (mCall n fm ms) := let ⟨_, pa, ka⟩ := ha; ⟨_, pe_callS G hr hg hm hk hb (fun σ => passAt tk σ) pa hdb he hpl, .call ka⟩
end
/-! ### a call that is lent a name's own list -/
section
variable {X : Cx} {B : Bs} {W : WX} {σ : L2.St} {F H : Hp} {ρ : List L}
theorem par1 {k : Nat} {vs : List V} {a b : Addr} (h : vs[k]? = some (.ref a)) : parV [k] vs b ↔ b = a := by
  constructor
  · rintro ⟨j, hj, e⟩
    have : j = k := by simpa using hj
    subst this
    rw [h] at e; cases e; rfl
  · rintro rfl; exact ⟨k, by simp, h⟩
theorem args_own (R0 : RelX X B F H σ ρ) {vs : List V} {rs : List R} {ls : List L} {k i : Nat} {o : Ob} (h : RrAll X B σ F H ρ vs rs) (ek : rs[k]? = some (.bor i)) (ei : ρ[i]? = some (.own o)) (e : vals (rs.set k (.val .non)) = some ls) :
    ∃ a, vs[k]? = some (.ref a) ∧ σ[i]? = some (some (.ref a)) ∧ ArgOk X.K X.mg [k] F H vs (ls.set k (.own o)) := by
  obtain ⟨v, h1, h2⟩ := h.get ek
  have h2 : σ[i]? = some (some v) := h2
  obtain ⟨a, g1, g2, g3, g4⟩ := R0.own i o ei
  rw [h2] at g1; cases g1
  have hk : k < rs.length := (List.getElem?_eq_some_iff.mp ek).1
  have hl : ls.length = rs.length := by rw [vals_len e, List.length_set]
  refine ⟨a, h1, h2, by rw [List.length_set, hl, h.length], R0.same, fun j d q => ?_, fun j o' q => ?_, fun j hj => ?_, fun j j' b hj hj' _ _ => ?_, fun j e' q => ?_⟩
  · rcases get_set q with ⟨rfl, z⟩ | ⟨hj, q⟩
    · cases z
    · obtain ⟨d', z1, z2⟩ := vals_get e q
      cases z1
      rw [List.getElem?_set_ne (Ne.symm hj)] at z2
      exact h.get z2
  · rcases get_set q with ⟨rfl, z⟩ | ⟨hj, q⟩
    · cases z; exact ⟨by simp, a, h1, g2, g4⟩
    · obtain ⟨d', z1, z2⟩ := vals_get e q
      cases z1
  · have : j = k := by simpa using hj
    subst this
    exact ⟨o, List.getElem?_set_self (by omega)⟩
  · have h1 : j = k := by simpa using hj
    have h2 : j' = k := by simpa using hj'
    rw [h1, h2]
  · rcases get_set q with ⟨rfl, z⟩ | ⟨hj, q⟩
    · cases z
    · obtain ⟨d', z1, z2⟩ := vals_get e q
      cases z1
theorem Rel.after1 (R0 : RelX X B F H σ ρ) {vs : List V} {F' H' : Hp} {ls' : List L} {k i : Nat} {a : Addr} {o : Ob} {l : L} (hv : vs[k]? = some (.ref a)) (hs : σ[i]? = some (some (.ref a))) (ei : ρ[i]? = some (.own o)) (el : ls'[k]? = some l) (f : FRel X.K X.mg [k] F H vs F' H' ls') : RelX X B F' H' σ (ρ.set i l.back) := by
  have kp : ∀ b o, b ≠ a → H b = some o → H' b = some o := fun b o hb e => f.keep b o e fun z => hb ((par1 hv).mp z)
  obtain ⟨a', g1, g2, g3, g4⟩ := R0.own i o ei
  rw [hs] at g1; cases g1
  obtain ⟨fo, fv⟩ := f.own k (by simp) a hv
  refine ⟨by rw [List.length_set]; exact R0.len, R0.same0.trans f.sameF, f.same, fun b o e hp => kp b o ?_ (R0.keep b o e hp), fun b o e => ?_, fun j d q => ?_, fun j o' q => ?_, fun j j' b o1 o2 q1 q2 q3 q4 => ?_, R0.pin, fun b hb => ?_, fun j e q => ?_, fun b u hb => kp b u (fun z => by rw [z, R0.opr i o a ei hs] at hb; cases hb) (R0.prot b u hb), (fun b u hb => by
    cases q : F' b with
    | none => rfl
    | some o' =>
      rcases f.low b o' q with h | h | h
      · rw [R0.prF b u hb] at h; cases h
      · rw [R0.prot b u hb] at h; cases h
      · rw [(par1 hv).mp h, R0.opr i o a ei hs] at hb; cases hb), fun j o2 b q z => ?_⟩
  · rintro rfl
    rcases R0.ownPar g3 hs with z | z
    · rw [e] at z; cases z
    · exact hp z
  · rcases f.low b o e with h | h | h
    · exact R0.low b o h
    · exact .inr (.inl (R0.new0 h))
    · rw [(par1 hv).mp h]
      exact .inr (R0.ownPar g3 hs)
  · rcases get_set q with ⟨rfl, z⟩ | ⟨hj, q⟩
    · rw [L.back_val z.symm] at el; exact ⟨_, hs, fv d el⟩
    · obtain ⟨v, h1, h2⟩ := R0.val j d q
      exact ⟨v, h1, h2.mono f.sameF⟩
  · rcases get_set q with ⟨rfl, z⟩ | ⟨hj, q⟩
    · rw [L.back_own z.symm] at el
      obtain ⟨h1, h2⟩ := fo o' el
      exact ⟨a, hs, h1, g3, h2⟩
    · obtain ⟨b, h1, h2, h3, h4⟩ := R0.own j o' q
      have hb : b ≠ a := fun z => by subst z; exact hj (R0.sep j i b _ _ q ei h1 hs)
      obtain ⟨u, hu⟩ := h4.some
      refine ⟨b, h1, ?_, h3, h4.mono f.sameF ((kp _ _ hb hu).trans hu.symm)⟩
      cases q : F' b with
      | none => rfl
      | some o' =>
        rcases f.low b o' q with h | h | h
        · rw [h2] at h; cases h
        · rw [hu] at h; cases h
        · exact absurd ((par1 hv).mp h) hb
  · have ex : ∀ (j : Nat) (o : Ob), (ρ.set i l.back)[j]? = some (.own o) → ∃ o2, ρ[j]? = some (.own o2) := fun j o q => by
      rcases get_set q with ⟨rfl, z⟩ | ⟨hj, q⟩
      · exact ⟨_, ei⟩
      · exact ⟨_, q⟩
    obtain ⟨_, z1⟩ := ex j o1 q1
    obtain ⟨_, z2⟩ := ex j' o2 q2
    exact R0.sep j j' b _ _ z1 z2 q3 q4
  · by_cases hba : b = a
    · subst hba; exact f.live b ((par1 hv).mpr rfl)
    · exact (R0.live b hb).imp fun u hu => kp b u hba hu
  · have q' : ρ[j]? = some (.exc e) := by
      rcases get_set q with ⟨rfl, z⟩ | ⟨hj, q⟩
      · exact (L.back_exc z.symm).elim
      · exact q
    obtain ⟨b, C, d, h1, h2, h3⟩ := R0.exc j e q'
    exact ⟨b, C, d, h1, h2, h3.mono f.sameF⟩
  · rcases get_set q with ⟨z1, _⟩ | ⟨hj, q⟩
    · rw [z1] at z; exact R0.opr i _ b ei z
    · exact R0.opr j o2 b q z
theorem Rr.of1 (R0 : RelX X B F H σ ρ) {F' H' : Hp} {v : V} {i : Nat} {l : L} {o1 : Ob} (ei : ρ[i]? = some (.own o1)) : ∀ {r : R}, Rr0 X.K X.mg H F' H' v r → RrX X B σ F' H' (ρ.set i l) v r
  | .val d, h => h
  | .bor _, h => h.elim
  | .own o, h => by
    obtain ⟨a, e, h1, h2, h3⟩ := h
    refine ⟨a, e, h1, R0.newF h2, fun j o' q z => ?_, h3⟩
    have ex : ∃ o2, ρ[j]? = some (.own o2) := by
      rcases get_set q with ⟨rfl, z⟩ | ⟨hj, q⟩
      · exact ⟨_, ei⟩
      · exact ⟨_, q⟩
    obtain ⟨o2, q⟩ := ex
    obtain ⟨b, g1, _, _, g4⟩ := R0.own j o2 q
    rw [z] at g1; cases g1
    obtain ⟨u, hu⟩ := g4.some
    rw [h2] at hu; cases hu
variable {e : Expr} {es : List Expr} {pos p : Pos} {x : Str} {ms : M (List R)} {k n j : Nat} {f : Addr} {fd : FuncData} {ps : List Str} {fm : FM}
theorem Tk.callO {t : TA} (h : TkA X B W t ms) : Tk X B W (tCallS (spM X.K X.mg n [j] fm) (WE W) t) (mCallO n j fm ms) := fun F H σ ρ Q R0 q => by
  refine h F H σ ρ _ R0 (q.bnd fun rs ρ1 F1 H1 vs s1 R1 rvs q2 => ?_)
  by_cases hn : rs.length = n
  · rw [if_pos hn] at q2
    split at q2
    · rename_i i ek
      split at q2
      · rename_i o ei
        split at q2
        · rename_i ls ev
          obtain ⟨a, hv, hs, ao⟩ := args_own R1 rvs ek ei ev
          refine ⟨rvs.length.trans hn, F1, _, ao, ?_⟩
          cases e2 : fm (ls.set j (.own o)) with
          | ok r ls' =>
            rw [e2] at q2
            dsimp only at q2
            cases el : ls'[j]? with
            | none => rw [el] at q2; exact q2.elim
            | some l => rw [el] at q2; exact fun F' H' v fr rv => q2 F' H' v fr.sameF (R1.after1 hv hs ei el fr) (Rr.of1 R1 ei rv)
          | er er ls' =>
            rw [e2] at q2
            dsimp only at q2
            cases el : ls'[j]? with
            | none => rw [el] at q2; exact q2.elim
            | some l => rw [el] at q2; exact fun F' H' C d fr z => q2 F' H' C d fr.sameF (R1.after1 hv hs ei el fr) z
          | bad => rw [e2] at q2; exact q2
        · exact q2.elim
      · exact q2.elim
    · exact q2.elim
  · rw [if_neg hn] at q2; exact q2.elim
theorem fe_callO (G : FnOk X.prog X.w X.K X.mg X.base (L2.CX X.prog X.w) k f fd ps (spM X.K X.mg n [j] fm)) (hr : Room k X.A) (hg : Gl X x) (hm : X.mg x = some (.ref f)) (hk : PySem.W.keepIn X.K (.ref f) = true) (hb : Binds X.K fd ps []) (tk : Takes X W)
    (ha : FA X B W (e :: es) ms) (hdb : (x == ("__debug__" : Str)) = false := by decide) (he : starEach (e :: es) X.env = (false, eval e X.env) :: starEach es X.env := by rfl) (hpl : (backTo pos (starEach es X.env)).any (·.1) = false := by rfl) :
    FE X B W (.Call (.Name x p) (e :: es) [] pos) (mCallO n j fm ms) := let ⟨_, pa, ka⟩ := ha; ⟨_, pe_callS G hr hg hm hk hb (fun σ => passAt tk σ) pa hdb he hpl, .callO ka⟩
end
end FL
/-! own exception classes over Exception, with no, one or two fields -/
namespace PySem
namespace EXX
open PySem.W PySem.Calls PyProof.Rows PySem.HandSPX
section
open Builtin Builtin.ObjectAttr
abbrev exE : List Value := [.type "Exception", .type "BaseException", .type "object"]
def refsX : List Value → Bool
  | .ref _ :: r => refsX r
  | l => l == exE
theorem refsX_cases : ∀ l : List Value, refsX l = true → (∃ c r, l = .ref c :: r ∧ refsX r = true) ∨ l = exE := fun l h => by
  unfold refsX at h
  split at h
  · rename_i c r
    exact .inl ⟨c, r, rfl, h⟩
  · exact .inr (beq_iff_eq.mp h)
theorem refsX_pass (self : Value) : ∀ l : List Value, refsX l = true → refuseLoop self "__setattr__" l = pure () := fun l => by
  induction l with
  | nil => exact fun h => absurd h (by decide)
  | cons a r ih =>
    intro h
    rcases refsX_cases _ h with ⟨c, r', q, h2⟩ | q
    · cases q; rw [refuseLoop_ref]; exact ih h2
    · rw [q]; exact F.store_Exception.passes self
theorem refsX_has (n : String) : ∀ l : List Value, refsX l = true → l.contains (.type n) = exE.contains (.type n) := fun l => by
  induction l with
  | nil => exact fun h => absurd h (by decide)
  | cons a r ih =>
    intro h
    rcases refsX_cases _ h with ⟨c, r', q, h2⟩ | q
    · cases q; rw [List.contains_cons, ih h2]; rfl
    · rw [q]
theorem refsX_ne {l : List Value} (h : refsX l = true) : l.isEmpty = false := by
  cases l with
  | nil => exact absurd h (by decide)
  | cons _ _ => rfl
variable {prog : Program} {w : World} {A : Around} {E : Value → Shared → Prop} {R : Result → Shared → Prop} {hp : Heap} {g : Array GenState} {d : Drawn} {t : Nat} {os : OsState}
/-- the way of a store into an own exception, up to its own dict -/
theorem store_way {KK : W.Frag} {nm : Str} {tk : Tok} {v : Value} {x C : Addr} {ox : Obj} {od : Option Obj} {cd : ClassData}
    (KX : KK.In hp) (I : W.InstAt hp x ox C od) (hcd : W.clsIn KK C = some cd) (hm : refsX cd.mro = true) (ha : W.findIn KK (.ref C) nm = some none)
    (hq : wpAny (model prog w) A.in1 (storeInOwnDict (.ref x) (.ref C) (.str nm tk) nm v false)
      (fun fin s' => match fin with | .done f => R (.ok f) s' | .again c' => c'.quiet = true ∧ codeAny (model prog w) A c' R s') (fun e s' => R (.error e) s') ⟨hp, g, d, t, os⟩) :
    codeAny (model prog w) A (.call (.builtin "object.__setattr__") ⟨[.ref x, .str nm tk, v], []⟩) R ⟨hp, g, d, t, os⟩ := by
  have SO := F.store_object
  have hne := refsX_ne hm
  have hobj : cd.mro.contains (.type "object") = true := (refsX_has "object" _ hm).trans (by decide +kernel)
  have hsub : W.Looks (model prog w) hp (isInstance (.ref x) (.type "object")) true := I.type.andThen (W.looks_mroIn KX (by unfold W.mroIn; rw [hcd, Option.bind_some, if_neg (by rw [hne]; decide), hobj]))
  refine codeAny_call_builtin SO.slot.plain SO.entry (@W.check_slot (model prog w) _ _ ⟨hp, g, d, t, os⟩ "object.__setattr__" "object" "__setattr__" (.ref x) [.str nm tk, v] [] _ SO.kind SO.split hsub (SO.args (.ref x) (.str nm tk) v) ?_)
  have hmro : W.Looks (model prog w) hp (mroOf (.ref C)) cd.mro := (W.looks_clsIn KX hcd).andThen .now
  have hno : W.Looks (model prog w) hp (storeTaker? none) none := .now
  rw [W.osa_eq, refuse_eq]
  refine wpAny_bind (wpAny_bind (I.type.at (wpAny_bind (hmro.at ?_))))
  rw [refsX_pass _ _ hm]
  exact wpAny_pure (wpAny_bind (I.type.at (wpAny_bind ((W.looks_findIn KX ha).at (wpAny_bind (hno.at hq))))))
/-- self.nm = v, the first one: the exception gets its dict -/
theorem store_first {KK : W.Frag} {nm : Str} {tk : Tok} {v : Value} {x C : Addr} {fv : Array Value} {cd : ClassData} (KX : KK.In hp) (hx : hp.get? x = some { cls := .ref C, data := .fields fv }) (hcd : W.clsIn KK C = some cd) (hm : refsX cd.mro = true) (hh : cd.hasDict = true) (ha : W.findIn KK (.ref C) nm = some none)
    (hq : ∀ h' tk' dx, (∀ b o, b ≠ x → hp.get? b = some o → h'.get? b = some o) → hp.objs.size ≤ dx → dx ≠ x → h'.get? x = some { cls := .ref C, dict := some dx, data := .fields fv } →
      h'.Ns1 dx (fun y => if y = nm then some v else none) → R (.ok (.ret .none)) ⟨h', g, d, tk', os⟩) :
    codeAny (model prog w) A (.call (.builtin "object.__setattr__") ⟨[.ref x, .str nm tk, v], []⟩) R ⟨hp, g, d, t, os⟩ := by
  have I : W.InstAt hp x { cls := .ref C, data := .fields fv } C none := ⟨hx, rfl, rfl, trivial⟩
  have nxs : x ≠ hp.objs.size := Nat.ne_of_lt (Heap.lt_size hx)
  have lcls : W.Looks (model prog w) hp (classData C) cd := W.looks_clsIn KX hcd
  refine store_way KX I hcd hm ha ?_
  obtain ⟨nm', bs, mro, ns, qn, hd, sn, sb, ab, col, del⟩ := cd
  dsimp only at hh
  subst hh
  unfold storeInOwnDict ownDictForStores
  repeat (first | with_reducible refine store_in_new ?_ ?_ | with_reducible refine wpAny_loadPart_at hx ?_ | with_reducible refine lcls.at ?_ | wp_step)
  · exact ⟨_, #[], _, (Heap.get?_update_ne _ _ _ _ nxs.symm).trans (Heap.get?_push_at rfl rfl), rfl, fun e he => absurd he (by simp), fun _ => rfl⟩
  · intro h' tk' hn' hs
    have hx1 : (hp.push { cls := .type "dict", data := .dict #[] }).get? x = some { cls := .ref C, data := .fields fv } := Heap.get?_push_of_some _ hx
    refine hq h' tk' hp.objs.size (fun b o hb ho => ?_) (Nat.le_refl _) nxs.symm ((hs.2 x nxs).trans (Heap.get?_update_self _ hx1 rfl)) hn'
    exact (hs.2 b (Nat.ne_of_lt (Heap.lt_size ho))).trans ((Heap.get?_update_ne _ _ _ _ hb).trans (Heap.get?_push_of_some _ ho))
/-- a further one -/
theorem store_more {KK : W.Frag} {nm : Str} {tk : Tok} {v : Value} {x C dx : Addr} {fv : Array Value} {cd : ClassData} {m0 : Str → Option Value} {nl : List Str} (KX : KK.In hp) (hx : hp.get? x = some { cls := .ref C, dict := some dx, data := .fields fv }) (hns : hp.Ns1 dx m0) (hw : Within m0 nl) (hz : nl.length ≤ 1000)
    (hcd : W.clsIn KK C = some cd) (hm : refsX cd.mro = true) (hh : cd.hasDict = true) (ha : W.findIn KK (.ref C) nm = some none)
    (hq : ∀ h' tk', (∀ b o, b ≠ dx → hp.get? b = some o → h'.get? b = some o) → h'.Ns1 dx (fun y => if y = nm then some v else m0 y) → R (.ok (.ret .none)) ⟨h', g, d, tk', os⟩) :
    codeAny (model prog w) A (.call (.builtin "object.__setattr__") ⟨[.ref x, .str nm tk, v], []⟩) R ⟨hp, g, d, t, os⟩ := by
  obtain ⟨oD, esD, epD, hoD, hdD, _⟩ := hns.count hw
  have I : W.InstAt hp x { cls := .ref C, dict := some dx, data := .fields fv } C (some oD) := ⟨hx, rfl, rfl, hoD⟩
  have lcls : W.Looks (model prog w) hp (classData C) cd := W.looks_clsIn KX hcd
  refine store_way KX I hcd hm ha ?_
  obtain ⟨nm', bs, mro, ns, qn, hd, sn, sb, ab, col, del⟩ := cd
  dsimp only at hh
  subst hh
  unfold storeInOwnDict ownDictForStores
  repeat (first | with_reducible refine PySem.OEX.store_in_old hns hw hz ?_ | with_reducible refine wpAny_loadPart_at hx ?_ | with_reducible refine lcls.at ?_ | wp_step)
  intro h' tk' hn' hs
  exact hq h' tk' (fun b o hb ho => (hs.2 b hb).trans ho) hn'
end
end EXX
end PySem
namespace FL
open PySem PySem.Spec L2
open PyProof.Rows hiding St
/-- a block's mirror as its reading -/
def semS (X : Cx) (B : Bs) (W : WX) (m : St') : TS := fun D σ H => ∃ F ρ, RelX X B F H σ ρ ∧ PoS X B W F D (m ρ)
section
variable {X : Cx} {B : Bs} {W : WX}
theorem FSs.sem {sts : List Stmt} {m : St'} (h : FSs X B W sts m) : PSs X sts (semS X B W m) := ⟨fun pins s σ H D I ⟨F, ρ, R0, q⟩ => let ⟨_, p, k⟩ := h; p.run pins s σ H D I (k F H σ ρ D R0 q)⟩
theorem FS.one {st : Stmt} {m : St'} (h : FS X B W st m) : FSs X B W [st] m := fss_one h
def Bs.withE (B : Bs) (z : Addr × Value × Option Addr) : Bs := { B with ex := some z }
def noExc (ρ : List L) : Bool := ρ.all fun l => match l with | .exc _ => false | _ => true
theorem noExc_get {ρ : List L} {i : Nat} {e : Er} (h : noExc ρ = true) : ρ[i]? ≠ some (.exc e) := fun q => by
  have := List.all_eq_true.mp h (.exc e) (List.mem_of_getElem? q)
  exact Bool.false_ne_true this
theorem Rel.toE {z : Addr × Value × Option Addr} {F H : Hp} {σ : L2.St} {ρ : List L} (r : RelX X B F H σ ρ) (hB : B.ex = none) : RelX X (B.withE z) F H σ ρ :=
  ⟨r.len, r.same0, r.same, r.keep, r.low, r.val, r.own, r.sep, r.pin, r.live, (fun i e q => by
    obtain ⟨a, C, d, h, _⟩ := r.exc i e q
    rw [hB] at h; cases h), r.prot, r.prF, r.opr⟩
theorem Rel.ofE {z : Addr × Value × Option Addr} {F H : Hp} {σ : L2.St} {ρ : List L} (r : RelX X (B.withE z) F H σ ρ) (h : noExc ρ = true) : RelX X B F H σ ρ :=
  ⟨r.len, r.same0, r.same, r.keep, r.low, r.val, r.own, r.sep, r.pin, r.live, fun i e q => absurd q (noExc_get h), r.prot, r.prF, r.opr⟩
theorem Rel.setExc {F H : Hp} {σ : L2.St} {ρ : List L} {i : Nat} {e : Er} {a : Addr} {C : Value} {d : Option Addr} (r : RelX X B F H σ ρ) (hB : B.ex = none) (hi : i ∉ B.om) (he : ErAt X.K X.mg F C d e) : RelX X (B.withE (a, C, d)) F H (σ.set i (some (.ref a))) (ρ.set i (.exc e)) := by
  have r' : RelX X (B.withE (a, C, d)) F H σ ρ := r.toE hB
  refine ⟨by rw [List.length_set, List.length_set]; exact r.len, r.same0, r.same, r.keep, r.low, fun j e' q => ?_, fun j o q => ?_, fun j k b o o' q1 q2 q3 q4 => ?_, fun k hk => ?_, r'.live, fun j e' q => ?_, r.prot, r.prF, fun j o b q z => ?_⟩
  · rcases get_set q with ⟨rfl, z⟩ | ⟨hj, q⟩
    · cases z
    · obtain ⟨w, e1, e2⟩ := r.val j e' q
      exact ⟨w, by rw [List.getElem?_set_ne (Ne.symm hj)]; exact e1, e2⟩
  · rcases get_set q with ⟨rfl, z⟩ | ⟨hj, q⟩
    · cases z
    · obtain ⟨b, e1, e2⟩ := r.own j o q
      exact ⟨b, by rw [List.getElem?_set_ne (Ne.symm hj)]; exact e1, e2⟩
  · rcases get_set q1 with ⟨rfl, z⟩ | ⟨hj, q1⟩
    · cases z
    · rcases get_set q2 with ⟨rfl, z⟩ | ⟨hk, q2⟩
      · cases z
      · rw [List.getElem?_set_ne (Ne.symm hj)] at q3
        rw [List.getElem?_set_ne (Ne.symm hk)] at q4
        exact r.sep j k b o o' q1 q2 q3 q4
  · have hne : i ≠ k := fun z => hi (z ▸ hk)
    rw [List.getElem?_set_ne hne]
    exact r.pin k hk
  · rcases get_set q with ⟨rfl, z⟩ | ⟨hj, q⟩
    · cases z
      have hl : j < σ.length := by
        rw [r.len]
        obtain ⟨z, _⟩ := List.getElem?_eq_some_iff.mp q
        rwa [List.length_set] at z
      exact ⟨a, C, d, rfl, List.getElem?_set_self hl, he⟩
    · obtain ⟨_, _, _, h, _⟩ := r.exc j e' q
      rw [hB] at h; cases h
  · rcases get_set q with ⟨_, z1⟩ | ⟨hj, q⟩
    · cases z1
    · rw [List.getElem?_set_ne (Ne.symm hj)] at z; exact r.opr j o b q z
/-- the end of an except suite: its name goes -/
def sEnd (i : Nat) : Fl → Fl
  | .nx ρ => if noExc (ρ.set i .non) = true then .nx (ρ.set i .non) else .bad
  | .rt r ρ => if noExc (ρ.set i .non) = true then .rt r (ρ.set i .non) else .bad
  | .bk ρ => if noExc (ρ.set i .non) = true then .bk (ρ.set i .non) else .bad
  | .ct ρ => if noExc (ρ.set i .non) = true then .ct (ρ.set i .non) else .bad
  | _ => .bad
abbrev Tbl := Str → Option Bool
def sTry (m : St') (tbl : Tbl) (i : Nat) (ms : St') : St' := fun ρ => match m ρ with
  | .er e ρ' => match tbl e.cls with
    | some true => sEnd i (ms (ρ'.set i (.exc e)))
    | some false => .er e ρ'
    | none => .bad
  | fl => fl
theorem Rr.ofE {z : Addr × Value × Option Addr} {F H : Hp} {σ : L2.St} {ρ : List L} {i : Nat} {v : V} : ∀ {r : R}, RrX X (B.withE z) σ F H ρ v r → RrX X B σ F H (ρ.set i .non) v r
  | .val d, h => h
  | .bor i, h => h
  | .own o, ⟨a, e, h1, h2, h3, h4⟩ => ⟨a, e, h1, h2, fun j o' q => by
    rcases get_set q with ⟨rfl, z⟩ | ⟨hj, q⟩
    · cases z
    · exact h3 j o' q, h4⟩
/-- a suite's end, wished for at the outer end -/
def suiteEnds (i : Nat) (D : Ends) : Ends := { nx := fun σ' H' => D.nx (σ'.set i none) H', rt := D.rt, bk := fun σ' H' => D.bk (σ'.set i none) H', ct := fun σ' H' => D.ct (σ'.set i none) H' }
theorem sEnd_ok {z : Addr × Value × Option Addr} {F : Hp} {i : Nat} {D : Ends} {fl : Fl} (hi : i ∉ B.om) (h : PoS X B W F D (sEnd i fl)) : PoS X (B.withE z) (fun _ _ _ _ => False) F (suiteEnds i D) fl := by
  have back : ∀ {F' H' : Hp} {σ' : L2.St} {ρ' : List L}, RelX X (B.withE z) F' H' σ' ρ' → noExc (ρ'.set i .non) = true → RelX X B F' H' (σ'.set i none) (ρ'.set i .non) := fun {F' H' σ' ρ'} R1 hn =>
    have q : RelX X (B.withE z) F' H' (σ'.set i none) (ρ'.set i .non) := Rel.setNon R1 hi
    Rel.ofE q hn
  have back2 : ∀ {F' H' : Hp} {σ' : L2.St} {ρ' : List L}, RelX X (B.withE z) F' H' σ' ρ' → noExc (ρ'.set i .non) = true → RelX X B F' H' σ' (ρ'.set i .non) := fun {F' H' σ' ρ'} R1 hn =>
    have q : RelX X (B.withE z) F' H' σ' (ρ'.set i .non) := Rel.gone R1
    Rel.ofE q hn
  cases fl with
  | nx ρ =>
    by_cases hn : noExc (ρ.set i .non) = true
    · dsimp only [sEnd] at h; rw [if_pos hn] at h; exact fun F' H' σ' s1 R1 => h F' H' _ s1 (back R1 hn)
    · dsimp only [sEnd] at h; rw [if_neg hn] at h; exact h.elim
  | rt r ρ =>
    by_cases hn : noExc (ρ.set i .non) = true
    · dsimp only [sEnd] at h; rw [if_pos hn] at h; exact fun F' H' σ' v s1 R1 rv => h F' H' σ' v s1 (back2 R1 hn) (Rr.ofE rv)
    · dsimp only [sEnd] at h; rw [if_neg hn] at h; exact h.elim
  | bk ρ =>
    by_cases hn : noExc (ρ.set i .non) = true
    · dsimp only [sEnd] at h; rw [if_pos hn] at h; exact fun F' H' σ' s1 R1 => h F' H' _ s1 (back R1 hn)
    · dsimp only [sEnd] at h; rw [if_neg hn] at h; exact h.elim
  | ct ρ =>
    by_cases hn : noExc (ρ.set i .non) = true
    · dsimp only [sEnd] at h; rw [if_pos hn] at h; exact fun F' H' σ' s1 R1 => h F' H' _ s1 (back R1 hn)
    · dsimp only [sEnd] at h; rw [if_neg hn] at h; exact h.elim
  | er e ρ => exact h.elim
  | bad => exact h.elim
/-- try: body / except x as n: suite -/
theorem fs_try {x n : Str} {c : Value} {i : Nat} {body suite : List Stmt} {b₀ : Stmt} {np pos pos' : Pos} {m ms : St'} {tbl : Tbl} (hs : X.stack = X.env :: X.outer) (hf : X.env.frame = some X.env.locals) (hN : X.N.Nodup) (hi : X.N[i]? = some n) (hln : X.env.kindOf n = some .local) (hc : Names X x c) (tk : Takes X W)
    (hom : i ∉ B.om) (hB : B.ex = none) (ht : ∀ cn b C, tbl cn = some b → X.mg cn = some (.ref C) → PySem.W.exmOne X.K (.ref C) c = some b)
    (hb : ∀ (W' : WX) (pn : List (Addr × Obj)) (xe : Value → Shared → Prop), Takes (X.tr pn xe) W' → PassesOwn (model X.prog X.w) X.A X.env xe → FSs (X.tr pn xe) B W' body m)
    (hsu : ∀ (a : Addr) (oe : Obj) (cls : Value) (d : Option Addr) (pn : List (Addr × Obj)), Zc cls d oe → (∃ vs, oe.data = .fields vs) → FSs (X.suite a ((a, oe) :: pn)) (B.withE (a, cls, d)) (fun _ _ _ _ => False) (b₀ :: suite) ms) :
    FS X B W (.Try body [.ExceptHandler (some (.Name x np)) (some n) (b₀ :: suite) pos'] [] [] pos) (sTry m tbl i ms) := by
  refine ⟨_, ps_try_as (tb := fun W' => semS X B W' m) (ts := fun a cls d => semS X (B.withE (a, cls, d)) (fun _ _ _ _ => False) ms) (Wout := W) hs hf hN hi hln hc tk (fun W' pn xe tk' po => (hb W' pn xe tk' po).sem) (fun a oe cls d pn hz hf => (hsu a oe cls d pn hz hf).sem), fun F H σ ρ D R0 q => ?_⟩
  refine ⟨F, ρ, R0, ?_⟩
  unfold sTry at q
  cases e : m ρ with
  | nx ρ1 => rw [e] at q; exact q
  | rt r ρ1 => rw [e] at q; exact q
  | bk ρ1 => rw [e] at q; exact q
  | ct ρ1 => rw [e] at q; exact q
  | bad => rw [e] at q; exact q
  | er er ρ1 =>
    rw [e] at q
    intro F1 H1 σ1 C d s1 R1 z
    obtain ⟨cc, hm, rfl, hfs⟩ := id z
    dsimp only at q
    cases et : tbl er.cls with
    | none => rw [et] at q; exact q.elim
    | some b =>
      rw [et] at q
      refine ⟨b, ht _ _ _ et hm, fun hbt a ha => ?_, fun hbf => ?_⟩
      · subst hbt
        exact ⟨F1, _, Rel.setExc R1 hB hom z, sEnd_ok hom (q.mono s1)⟩
      · subst hbf
        exact q F1 H1 σ1 _ d s1 R1 z
end
/-! ### in a suite: the error's field, its class -/
def mErr (i : Nat) (cn f : Str) : M R := fun ρ => match ρ[i]? with
  | some (.exc e) => if e.cls = cn then (match e.fs.lookup f with
    | some d => .ok (.val d) ρ
    | none => .bad) else .bad
  | _ => .bad
def mErrIs (i : Nat) (tbl : Tbl) : M R := fun ρ => match ρ[i]? with
  | some (.exc e) => match tbl e.cls with
    | some b => .ok (.val (.bl b)) ρ
    | none => .bad
  | _ => .bad
section
variable {X : Cx} {B : Bs} {W : WX}
theorem DrFs.lookup {K : Fg} {mg : Mg} {H : Hp} {f : Str} {d : Dt} : ∀ {gs : List (Str × Dt)} {vs : List (Str × V)}, DrFs K mg H vs gs → gs.lookup f = some d → ∃ v, vs.lookup f = some v ∧ Dr K mg H v d
  | [], _, h, q => by cases h; simp at q
  | (n, e) :: gs, _, h, q => by
    cases h with
    | cons h1 h2 =>
      rw [List.lookup_cons] at q ⊢
      cases hn : f == n with
      | true => rw [hn] at q; cases q; exact ⟨_, rfl, h1⟩
      | false => rw [hn] at q; exact DrFs.lookup h2 q
theorem fe_err (i : Nat) (cn : Str) {C a : Addr} {oe : Obj} {cls : Value} {d : Option Addr} {pn : List (Addr × Obj)} {x f : Str} {p pos : Pos} (hC : X.mg cn = some (.ref C)) (T : XfC X.K C) (hno : PySem.W.findIn X.K (.ref C) f = some none) (hz : Zc cls d oe) (hf : ∃ vs, oe.data = .fields vs)
    (hN : X.N[i]? = some x := by rfl) (hv : Vis X.env.scope x := by first | exact Or.inl rfl | exact Or.inr (Or.inl rfl) | exact Or.inr (Or.inr rfl)) (hd : (x == ("__debug__" : Str)) = false := by decide) (hcd : (x == ("__classdict__" : Str)) = false := by decide)
    (hb : attributeBase (.Name x p) f X.env (eval (.Name x p) X.env) = eval (.Name x p) X.env := by rfl) : FE (X.suite a ((a, oe) :: pn)) (B.withE (a, cls, d)) W (.Attribute (.Name x p) f pos) (mErr i cn f) := by
  refine ⟨_, pe_xf T hno hz hf (pe_var hN hv hd hcd) hb, fun F H σ ρ Q R0 q => ?_⟩
  unfold mErr at q
  split at q
  · rename_i e he
    by_cases hcn : e.cls = cn
    · rw [if_pos hcn] at q
      split at q
      · rename_i dd hl
        obtain ⟨a', C', d', h1, h2, c, h3, h4, h5⟩ := R0.exc i e he
        cases h1
        rw [hcn] at h3
        have h3 : X.mg cn = some (.ref c) := h3
        rw [hC] at h3; cases h3
        refine ⟨_, h2, rfl, h4, ?_⟩
        rcases h5 with ⟨z, _⟩ | ⟨dx, vs, z1, z2, z3⟩
        · rw [z] at hl; simp at hl
        · obtain ⟨v, k1, k2⟩ := z3.lookup hl
          exact ⟨dx, vs, v, z1, R0.same _ _ z2, k1, q F H v (Same.refl _) R0 k2⟩
      · exact q.elim
    · rw [if_neg hcn] at q; exact q.elim
  · exact q.elim
end
end FL
namespace PySem.W
open PySem PySem.Spec PySem.Calls
open PyProof.Rows hiding St
section
variable {prog : Program} {w : World} {A : Around} {E : Value → Shared → Prop} {s : Shared} {K : Frag} {x D : Addr} {ox : Obj} {od : Option Obj}
theorem fl_findClass {C : Addr} {nm : Str} {a g : Value} (hc : (clsIn K C).isSome = true) (ha : findIn K (.ref C) nm = some (some a)) (hg : specialIn K a "__get__" = some (some g)) (ht : takesIn K a = some true) : findObj K C od nm = some (.bind g a) := by
  obtain ⟨cd, hc⟩ := Option.isSome_iff_exists.mp hc
  simp [findObj, hc, ha, hg, ht]
theorem fl_class {Q : Option Value → Shared → Prop} (c : L2.ExcC K D) (X : K.In s.heap) (I : InstAt s.heap x ox D od) (h : Q (some (.ref D)) { s with toks := s.toks + 1 }) : wpAny (model prog w) A (getAttr? (.ref x) "__class__") Q E s := by
  have hf : findObj K D od "__class__" = some (.bind (.builtin "getset_descriptor.__get__") (.builtin "object.__class__")) := fl_findClass (by obtain ⟨cd, hc, _⟩ := any_some c.hd; rw [hc]; rfl) c.ha c.hn c.ht
  obtain ⟨hp, g, d, t, os⟩ := s
  have A0 := I.type (M := model prog w)
  have A1 := looks_findIn (M := model prog w) X c.hg
  have A2 := looks_findIn (M := model prog w) X c.hk
  have A3 := looks_find (M := model prog w) X I hf
  have hsub : Looks (model prog w) hp (isInstance (.ref x) (.type "BaseException")) true := A0.andThen (looks_subIn X c.hs)
  have n2 : (Value.builtin "BaseException.__getattribute__" == Value.builtin "object.__getattribute__") = false := by decide +kernel
  have n1 : (onTheHeap (Value.ref D) && Value.builtin "BaseException.__getattribute__" == Value.builtin "object.__getattribute__") = false := by rw [n2]; rfl
  unfold getAttr? getAttrBy? getAttrBy
  refine wpAny_bind (wpAny_mkText (wpAny_bind (wpAny_attempt (wpAny_holding (wpAny_bind (A0.at (wpAny_bind (A1.at ?_))))))))
  show wpAny _ _ (ite ((onTheHeap (Value.ref D) && Value.builtin "BaseException.__getattribute__" == Value.builtin "object.__getattribute__") = true) _ _) _ _ _
  rw [n1, if_neg Bool.false_ne_true]
  unfold getAttrByItsOwn hookBefore
  refine wpAny_bind ?_
  rw [if_pos (show onTheHeap (.ref D) = true from rfl)]
  refine A2.at (wpAny_bind (wpAny_attempt (wpAny_holding ?_)))
  unfold callGetattribute
  rw [show (false && onTheHeap (Value.builtin "BaseException.__getattribute__")) = false from rfl, if_neg Bool.false_ne_true]
  unfold boundAndCalled
  rw [PySem.F.excAttr_ValueError.ga.bind (Value.ref x)]
  refine wpAny_bind (wpAny_pure ?_)
  show wpAny _ _ (call (.builtin "BaseException.__getattribute__") [Value.ref x, .str "__class__" t]) _ _ _
  refine wpAny_call (codeAny_call_builtin (PySem.F.excAttr_ValueError.ga.plain) (PySem.F.entry_bexc_ga) ?_)
  refine @check_slot (model prog w) _ _ ⟨hp, g, d, t + 1, os⟩ "BaseException.__getattribute__" "BaseException" "__getattribute__" (Value.ref x) [.str "__class__" t] [] _ (by decide +kernel) (by decide +kernel) hsub (PySem.F.args_bexc_ga (.ref x) (.str "__class__" t)) ?_
  unfold Builtin.«object.__getattribute__»
  refine wpAny_bind (wpAny_of_eq (a := ((Value.ref x, [Value.str "__class__" t]) : Value × List Value)) (by first | rfl | (simp only [slotArgs]; rfl)) ?_)
  refine wpAny_bind (wpAny_pure (wpAny_bind (A0.at (wpAny_bind (A3.at ?_)))))
  show wpAny _ _ (holding [Value.builtin "object.__class__"] (call (.builtin "getset_descriptor.__get__") [.builtin "object.__class__", Value.ref x, Value.ref D]) >>= ret) _ _ _
  refine wpAny_bind (wpAny_holding (wpAny_call (class_get (s := ⟨hp, g, d, t + 1, os⟩) (ox := ox) (od := od) X I c.hm ?_)))
  refine wpAny_pure ?_
  show wpAny _ _ (handedOut (Value.ref D)) _ _ _
  rw [handedOut_of (v := Value.ref D) rfl]
  first
    | exact wpAny_pure h
    | exact wpAny_pure (wpAny_pure h)
    | exact wpAny_pure (wpAny_bind (wpAny_pure (wpAny_pure h)))
theorem fl_kit (c : L2.ExcC K D) : KitX K (.ref x) (.ref D) (fun h => InstAt h x ox D od) where
  ty := fun _ _ _ I => I.type
  it := fun _ _ X _ => by
    obtain ⟨cdD, hcD, _⟩ := any_some c.hd
    unfold clsIn at hcD
    split at hcD
    · rename_i ho
      intro A' Q' E' s' k q
      unfold isType loadHead
      exact wpAny_bind (wpAny_loadPart (k _ _ (X _ _ ho)) (wpAny_pure q))
    · cases hcD
  ne := fun h tp dd its n sl X htp => by
    obtain ⟨cdD, hcD, _⟩ := any_some c.hd
    refine Bool.eq_false_iff.mpr fun q => ?_
    cases Value.ref.inj (beq_iff_eq.mp q)
    unfold clsIn at hcD
    split at hcD
    · rename_i ho
      cases (X _ _ ho).symm.trans htp
    · cases hcD
  ca := fun X I k => fl_class c X I k
end
end PySem.W
namespace FL
open PySem PySem.Spec L2
open PyProof.Rows hiding St
section
variable {X : Cx} {B : Bs} {W : WX}
/-- isinstance(e, C), e the error that the suite holds -/
def rErIs (K : Fg) (cls : Value) (d : Option Addr) (a : Addr) : List V → Hp → VK → Prop := fun xs H Q => ∃ (D : Addr) (c : V) (cv : Value) (b : Bool), xs = [.ref a, c] ∧ (∀ u, RelV c u → u = cv) ∧ cls = .ref D ∧ ExcC K D ∧ PySem.W.kitOne K (.ref D) cv = some b ∧ (∀ dd, d = some dd → ∃ fs, H dd = some (.xd fs)) ∧ Q (.bl b) H
theorem call_erIs {a : Addr} {oe : Obj} {cls : Value} {d : Option Addr} {pn : List (Addr × Obj)} (hz : Zc cls d oe) (hf : ∃ vs, oe.data = .fields vs) : CallR (X.suite a ((a, oe) :: pn)) (.builtin "isinstance") (rErIs X.K cls d a) := by
  intro pins s σ H xs us Q I r h
  obtain ⟨D, c, cv, b, rfl, hcv, hcl, hE, e, hdd, q⟩ := h
  subst hcl
  cases r with
  | cons rx rr =>
    cases rr with
    | cons rt rr =>
    cases rr
    cases rx
    have ec := hcv _ rt
    subst ec
    obtain ⟨hget, _⟩ := I.pin (a, oe) (List.mem_append.mpr (.inl List.mem_cons_self))
    obtain ⟨vs, hv⟩ := hf
    obtain ⟨od, J⟩ : ∃ od, PySem.W.InstAt s.heap a oe D od := by
      obtain ⟨h1, h2⟩ := hz
      cases d with
      | none => exact ⟨none, hget, h1, by unfold PySem.W.notCls; rw [hv] <;> rfl, by rw [h2]; trivial⟩
      | some dd =>
        obtain ⟨fs, hfs⟩ := hdd dd rfl
        have hx : ObjOk X.prog X.w H s.heap dd (.xd fs) := I.hok dd _ hfs
        obtain ⟨mA, hns, hr⟩ := hx
        obtain ⟨od, ho, _⟩ := lookIn_ns hns
        exact ⟨some od, hget, h1, by unfold PySem.W.notCls; rw [hv] <;> rfl, by rw [h2]; exact ho⟩
    exact PySem.W.kia_one (PySem.W.fl_kit hE) I.kIn J e (fun z => nomatch z) fun tk => ⟨.bl b, H, I.kept (t' := tk) fun _ _ z => z, rfl, q⟩
theorem fe_erris (i : Nat) (tbl : Tbl) {C a : Addr} {oe : Obj} {cls : Value} {d : Option Addr} {pn : List (Addr × Obj)} {x c : Str} {p p1 p2 pos : Pos} (hz : Zc cls d oe) (hf : ∃ vs, oe.data = .fields vs) (hg : Gl X "isinstance") (hm : X.mg "isinstance" = none) (hgc : Gl X c) (hC : X.mg c = some (.ref C))
    (ht : ∀ cn b D, tbl cn = some b → X.mg cn = some (.ref D) → ExcC X.K D ∧ PySem.W.kitOne X.K (.ref D) (.ref C) = some b)
    (hN : X.N[i]? = some x := by rfl) (hv : Vis X.env.scope x := by first | exact Or.inl rfl | exact Or.inr (Or.inl rfl) | exact Or.inr (Or.inr rfl)) (hd : (x == ("__debug__" : Str)) = false := by decide) (hcd : (x == ("__classdict__" : Str)) = false := by decide) (hdc : (c == ("__debug__" : Str)) = false := by decide)
    (hs : starEach [.Name x p1, .Name c p2] X.env = (false, eval (.Name x p1) X.env) :: starEach [.Name c p2] X.env := by rfl) (hs2 : starEach [.Name c p2] X.env = (false, eval (.Name c p2) X.env) :: starEach [] X.env := by rfl) (hpl : (backTo pos (starEach [.Name c p2] X.env)).any (·.1) = false := by rfl) :
    FE (X.suite a ((a, oe) :: pn)) (B.withE (a, cls, d)) W (.Call (.Name "isinstance" p) [.Name x p1, .Name c p2] [] pos) (mErrIs i tbl) := by
  have pc : PE (X.suite a ((a, oe) :: pn)) (.Name c p2) (tC (.ref C)) := ⟨fun _ _ _ H _ I h => ld_glob I hgc hC ⟨.ref C, H, I, rfl, h⟩ hdc⟩
  refine ⟨_, pe_callB (call_erIs hz hf) hg hm boot_isinstance (pa_cons (pe_var hN hv hd hcd) (pa_cons pc pa_nil hs2) hs) (by decide) (by decide) hs hpl, fun F H σ ρ Q R0 q => ?_⟩
  unfold mErrIs at q
  split at q
  · rename_i e he
    split at q
    · rename_i b hb
      obtain ⟨a', C', d', h1, h2, D, h3, h4, h5⟩ := R0.exc i e he
      cases h1
      obtain ⟨k1, k2⟩ := ht _ _ _ hb h3
      refine ⟨_, h2, D, .ref C, .ref C, b, rfl, fun u hu => hu, h4, k1, k2, fun dd hdd => ?_, q F H _ (Same.refl _) R0 .bl⟩
      rcases h5 with ⟨_, z⟩ | ⟨dx, vs, z1, z2, z3⟩
      · rw [z] at hdd; cases hdd
      · rw [z1] at hdd; cases hdd; exact ⟨vs, R0.same _ _ z2⟩
    · exact q.elim
  · exact q.elim
end
end FL
namespace FL
open PySem PySem.Spec L2
open PyProof.Rows hiding St
/-! ### list comprehensions -/
def wipeL (ρ : List L) : List Nat → List L
  | [] => ρ
  | v :: vs => (wipeL ρ vs).set v .non
def keepV : Option L → L
  | some (.val d) => .val d
  | _ => .non
/-- behind the block its own names are as they were ahead of it -/
def restL (ρ0 ρw : List L) : List Nat → List L
  | [] => ρw
  | v :: vs => (restL ρ0 ρw vs).set v (keepV ρ0[v]?)
def compL (vs : List Nat) (g : Gt) (c : M Bool) (e : M R) : List Dt → M (List Dt)
  | [] => M.ret []
  | d :: ds => fun ρ => match g d ρ with
    | none => .bad
    | some ρ1 => M.bnd c (fun b => if b = true then M.bnd (mFrz e) (fun r => match r with
      | .val z => fun ρ2 => M.bnd (compL vs g c e ds) (fun zs => M.ret (z :: zs)) (wipeL ρ2 vs)
      | _ => M.no) else fun ρ2 => compL vs g c e ds (wipeL ρ2 vs)) ρ1
def mComp (vs : List Nat) (mi : M (List Dt)) (g : Gt) (c : M Bool) (e : M R) : M R := M.bnd mi fun items ρ => if items.length ≤ 16777216 then (match compL vs g c e items (wipeL ρ vs) with
  | .ok zs ρ' => .ok (.own (.lst zs)) (restL ρ ρ' vs)
  | _ => .bad) else .bad
def Bs.wp (B : Bs) (P : Hp) : Bs := { B with pr := P }
section
variable {X : Cx} {B : Bs} {W : WX} {F F' H H' : Hp} {σ : L2.St} {ρ : List L}
theorem Rel.wipe (r : RelX X B F H σ ρ) : ∀ {vs : List Nat}, (∀ i ∈ vs, i ∉ B.om) → RelX X B F H (L2.wipe σ vs) (wipeL ρ vs)
  | [], _ => r
  | v :: vs, h => Rel.setNon (Rel.wipe r (vs := vs) fun i hi => h i (List.mem_cons_of_mem _ hi)) (h v List.mem_cons_self)
theorem wipe_ne {j : Nat} : ∀ {vs : List Nat}, j ∉ vs → (L2.wipe σ vs)[j]? = σ[j]?
  | [], _ => rfl
  | v :: vs, h => by
    unfold L2.wipe
    rw [List.getElem?_set_ne (fun z => h (by simp [z]))]
    exact wipe_ne fun z => h (List.mem_cons_of_mem _ z)
theorem wipe_in {j : Nat} : ∀ {vs : List Nat}, j ∈ vs → j < σ.length → (L2.wipe σ vs)[j]? = some none
  | [], h, _ => by cases h
  | v :: vs, h, hl => by
    unfold L2.wipe
    by_cases hv : v = j
    · subst hv; rw [List.getElem?_set_self (by rw [wipe_length]; exact hl)]
    · rw [List.getElem?_set_ne hv]
      exact wipe_in ((List.mem_cons.mp h).resolve_left fun z => hv z.symm) hl
theorem Upto.wipe {ts vs : List Nat} {σ' : L2.St} (u : Upto ts σ σ') (h : ∀ t ∈ ts, t ∈ vs) : L2.wipe σ' vs = L2.wipe σ vs := by
  apply List.ext_getElem?
  intro j
  by_cases hj : j ∈ vs
  · by_cases hl : j < σ.length
    · rw [wipe_in hj hl, wipe_in hj (by rw [u.1]; exact hl)]
    · rw [List.getElem?_eq_none (by rw [wipe_length, u.1]; omega), List.getElem?_eq_none (by rw [wipe_length]; omega)]
  · rw [wipe_ne hj, wipe_ne hj, u.2 j fun z => hj (h j z)]
theorem restL_length {ρ0 ρw : List L} : ∀ {vs : List Nat}, (restL ρ0 ρw vs).length = ρw.length
  | [] => rfl
  | v :: vs => by unfold restL; rw [List.length_set, restL_length]
theorem restL_get {ρ0 ρw : List L} {j : Nat} {l : L} : ∀ {vs : List Nat}, (restL ρ0 ρw vs)[j]? = some l → (j ∉ vs ∧ ρw[j]? = some l) ∨ l = keepV ρ0[j]?
  | [], h => .inl ⟨by simp, h⟩
  | v :: vs, h => by
    unfold restL at h
    rcases get_set h with ⟨rfl, z⟩ | ⟨hj, z⟩
    · exact .inr z
    · rcases restL_get z with ⟨h1, h2⟩ | h1
      · exact .inl ⟨fun z => (List.mem_cons.mp z).elim hj h1, h2⟩
      · exact .inr h1
theorem keepV_val {o : Option L} {d : Dt} (h : L.val d = keepV o) : o = some (.val d) := by
  unfold keepV at h
  split at h
  · cases h; rfl
  · cases h
theorem keepV_own {o : Option L} {b : Ob} (h : L.own b = keepV o) : False := by
  unfold keepV at h
  split at h <;> cases h
theorem keepV_exc {o : Option L} {e : Er} (h : L.exc e = keepV o) : False := by
  unfold keepV at h
  split at h <;> cases h
theorem Rel.unwipe {F0 H0 : Hp} {ρ0 ρw : List L} {vs : List Nat} {P : Hp} (r0 : RelX X B F0 H0 σ ρ0) (s : Same F0 F) (r : RelX X (B.wp P) F H (L2.wipe σ vs) ρw) (hP : ∀ b o, B.pr b = some o → P b = some o) : RelX X B F H σ (restL ρ0 ρw vs) := by
  have own' : ∀ (i : Nat) (o : Ob), (restL ρ0 ρw vs)[i]? = some (.own o) → i ∉ vs ∧ ρw[i]? = some (.own o) := fun i o q => by
    rcases restL_get q with h | h
    · exact h
    · exact (keepV_own h).elim
  refine ⟨?_, r.same0, r.same, r.keep, r.low, fun i d q => ?_, fun i o q => ?_, fun i j a o o' q1 q2 q3 q4 => ?_, r0.pin, r.live, fun i e q => ?_, fun b o e => r.prot b o (hP b o e), fun b o e => r.prF b o (hP b o e), fun i o a q z => ?_⟩
  · rw [restL_length, ← r.len, wipe_length]
  · rcases restL_get q with ⟨h1, h2⟩ | h
    · obtain ⟨v, k1, k2⟩ := r.val i d h2
      rw [wipe_ne h1] at k1
      exact ⟨v, k1, k2⟩
    · obtain ⟨v, k1, k2⟩ := r0.val i d (keepV_val h)
      exact ⟨v, k1, k2.mono s⟩
  · obtain ⟨h1, h2⟩ := own' i o q
    obtain ⟨a, k1, k2⟩ := r.own i o h2
    rw [wipe_ne h1] at k1
    exact ⟨a, k1, k2⟩
  · obtain ⟨h1, h2⟩ := own' i o q1
    obtain ⟨h3, h4⟩ := own' j o' q2
    exact r.sep i j a o o' h2 h4 (by rw [wipe_ne h1]; exact q3) (by rw [wipe_ne h3]; exact q4)
  · rcases restL_get q with ⟨h1, h2⟩ | h
    · obtain ⟨a, C, d, k1, k2, k3⟩ := r.exc i e h2
      rw [wipe_ne h1] at k2
      exact ⟨a, C, d, k1, k2, k3⟩
    · exact (keepV_exc h).elim
  · obtain ⟨h1, h2⟩ := own' i o q
    have := r.opr i o a h2 (by rw [wipe_ne h1]; exact z)
    cases e : B.pr a with
    | none => rfl
    | some u =>
      have this : P a = none := this
      rw [hP a u e] at this; cases this
/-- a protected list at D -/
theorem Rel.guard {D : Addr} {u : HO} (r : RelX X B F H σ ρ) (hD : H D = none) : RelX X (B.wp (upd B.pr D u)) F (upd H D u) σ ρ := by
  have r' := r.allocOwn hD u
  refine ⟨r.len, r.same0, r'.same, r'.keep, r.low, r.val, r'.own, r.sep, r.pin, r'.live, r.exc, fun b o e => ?_, fun b o e => ?_, fun i o a q z => ?_⟩
  · by_cases hb : b = D
    · subst hb; rw [upd_same]; have e' : upd B.pr b u b = some o := e; rw [upd_same] at e'; exact e'
    · rw [upd_ne hb]; have e' : upd B.pr D u b = some o := e; rw [upd_ne hb] at e'; exact r.prot b o e'
  · by_cases hb : b = D
    · subst hb; exact r.fnone hD
    · have e' : upd B.pr D u b = some o := e; rw [upd_ne hb] at e'; exact r.prF b o e'
  · obtain ⟨b, h1, _, _, h4⟩ := r.own i o q
    rw [z] at h1; cases h1
    obtain ⟨w, hw⟩ := h4.some
    show upd B.pr D u a = none
    rw [upd_ne (ne_of_none hw hD)]
    exact r.opr i o a q z
theorem Rel.bump {D : Addr} {u w : HO} (r : RelX X (B.wp (upd B.pr D u)) F H σ ρ) (h0 : B.fr D) (hp : ¬ B.par D) : RelX X (B.wp (upd B.pr D w)) F (upd H D w) σ ρ := by
  have hF : F D = none := r.prF D u upd_same
  refine ⟨r.len, r.same0, fun b o e => ?_, fun b o e q => ?_, r.low, r.val, fun i o q => ?_, r.sep, r.pin, fun a ha => ?_, r.exc, fun b o e => ?_, fun b o e => ?_, fun i o a q z => ?_⟩
  · rw [upd_ne (ne_of_none e hF)]; exact r.same b o e
  · have : b ≠ D := fun z => by subst z; have e' : B.H0 b = some o := e; rw [h0.1] at e'; cases e'
    rw [upd_ne this]; exact r.keep b o e q
  · obtain ⟨a, h1, h2, h3, h4⟩ := r.own i o q
    have : a ≠ D := fun z => by
      have := r.opr i o a q h1
      subst z
      rw [show (B.wp (upd B.pr a u)).pr a = some u from upd_same] at this; cases this
    exact ⟨a, h1, h2, h3, h4.mono (Same.refl _) (upd_ne this)⟩
  · have : a ≠ D := fun z => hp (z ▸ ha)
    rw [upd_ne this]; exact r.live a ha
  · have e' : upd B.pr D w b = some o := e
    by_cases hb : b = D
    · subst hb; rw [upd_same] at e' ⊢; exact e'
    · rw [upd_ne hb] at e' ⊢; exact r.prot b o (by show upd B.pr D u b = some o; rw [upd_ne hb]; exact e')
  · have e' : upd B.pr D w b = some o := e
    by_cases hb : b = D
    · subst hb; exact hF
    · rw [upd_ne hb] at e'; exact r.prF b o (by show upd B.pr D u b = some o; rw [upd_ne hb]; exact e')
  · have h := r.opr i o a q z
    have h' : upd B.pr D u a = none := h
    show upd B.pr D w a = none
    by_cases ha : a = D
    · subst ha; rw [upd_same] at h'; cases h'
    · rw [upd_ne ha] at h' ⊢; exact h'
abbrev W0 : WX := fun _ _ _ _ => False
def semE (X : Cx) (B : Bs) (m : M R) : TE := fun σ H Q => ∃ P F ρ, RelX X (B.wp P) F H σ ρ ∧ Po X (B.wp P) W0 σ (RrX X (B.wp P) σ) F (m ρ) Q
def semT (X : Cx) (B : Bs) (m : M Bool) : TT := fun σ H Q => ∃ P F ρ, RelX X (B.wp P) F H σ ρ ∧ Po X (B.wp P) W0 σ relT F (m ρ) Q
def semG (X : Cx) (B : Bs) (f : Gt) (ts : List Nat) : TG := fun v σ H Q => ∃ P F ρ d ρ', RelX X (B.wp P) F H σ ρ ∧ Dr X.K X.mg F v d ∧ f d ρ = some ρ' ∧ ∀ σ', Upto ts σ σ' → RelX X (B.wp P) F H σ' ρ' → Q σ' H
theorem FE.sem {e : Expr} {m : M R} (h : ∀ P, FE X (B.wp P) W0 e m) : PE X e (semE X B m) := ⟨fun pins s σ H Q I ⟨P, F, ρ, R0, q⟩ => let ⟨_, p, k⟩ := h P; p.run pins s σ H Q I (k F H σ ρ Q R0 q)⟩
theorem FT.sem {e : Expr} {m : M Bool} (h : ∀ P, FT X (B.wp P) W0 e m) : PT X e (semT X B m) := ⟨fun pins s σ H Q I ⟨P, F, ρ, R0, q⟩ => let ⟨_, p, k⟩ := h P; p.run pins s σ H Q I (k F H σ ρ Q R0 q)⟩
theorem FG.sem {e : Expr} {f : Gt} {ts : List Nat} (h : ∀ P, FG X (B.wp P) e f ts) : PG X e (semG X B f ts) := ⟨fun pins s σ H v u Q I rv ⟨P, F, ρ, d, ρ', R0, hd, hf, q⟩ => let ⟨_, p, k⟩ := h P; p.run pins s σ H v u Q I rv (k F H σ ρ ρ' v d Q R0 hd hf q)⟩
/-- the tests of a clause -/
def FTs (X : Cx) (B : Bs) (ifs : List Expr) (m : M Bool) : Prop := (ifs = [] ∧ m = M.ret true) ∨ ∃ c, ifs = [c] ∧ ∀ P, FT X (B.wp P) W0 c m
theorem FTs.sem {ifs : List Expr} {m : M Bool} (h : FTs X B ifs m) : PTs X ifs (semT X B m) := by
  rcases h with ⟨rfl, rfl⟩ | ⟨c, rfl, h⟩
  · exact ⟨fun pins s σ H Q I ⟨P, F, ρ, R0, q⟩ => pts_nil.run pins s σ H Q I (q.ret R0 rfl)⟩
  · exact pts_one (FT.sem h)
theorem wipe_wipe {σ : L2.St} {vs : List Nat} : L2.wipe (L2.wipe σ vs) vs = L2.wipe σ vs := by
  apply List.ext_getElem?
  intro j
  by_cases hj : j ∈ vs
  · by_cases hl : j < σ.length
    · rw [wipe_in hj (by rw [wipe_length]; exact hl), wipe_in hj hl]
    · rw [List.getElem?_eq_none (by rw [wipe_length, wipe_length]; omega), List.getElem?_eq_none (by rw [wipe_length]; omega)]
  · rw [wipe_ne hj]
theorem bnd_ok {α β : Type} {m : M α} {f : α → M β} {ρ ρ' : List L} {b : β} (h : M.bnd m f ρ = .ok b ρ') : ∃ a ρ1, m ρ = .ok a ρ1 ∧ f a ρ1 = .ok b ρ' := by
  unfold M.bnd at h
  cases e : m ρ with
  | ok a ρ1 => rw [e] at h; exact ⟨a, ρ1, rfl, h⟩
  | er _ _ => rw [e] at h; cases h
  | bad => rw [e] at h; cases h
theorem Tk.comp {wi : TI} {mi : M (List Dt)} {g : Gt} {c : M Bool} {e : M R} {vs ts : List Nat} (hi : TkI X B W wi mi) (hts : ∀ t ∈ ts, t ∈ vs) (hom : ∀ i ∈ vs, i ∉ B.om) : Tk X B W (tLc wi (semG X B g ts) (semT X B c) (semE X B (mFrz e)) vs) (mComp vs mi g c e) := fun F H σ ρ Q R0 q => by
  refine hi F H σ ρ _ R0 (q.bnd fun items ρ1 F1 H1 J s1 R1 w q1 => ?_)
  intro Dd hD
  by_cases hlen : items.length ≤ 16777216
  · rw [if_pos hlen] at q1
    cases eC : compL vs g c e items (wipeL ρ1 vs) with
    | er _ _ => rw [eC] at q1; exact q1.elim
    | bad => rw [eC] at q1; exact q1.elim
    | ok ZS ρE =>
      rw [eC] at q1
      have fD : B.fr Dd := R1.newF hD
      have pD : ¬ B.par Dd := fun z => by
        obtain ⟨u, hu⟩ := R1.live Dd z
        rw [hD] at hu; cases hu
      refine ⟨fun i k H => k = items.length - i ∧ i ≤ items.length ∧ ∃ F2 ρ2 acc accV zs, Same F1 F2 ∧ RelX X (B.wp (upd B.pr Dd (.lst accV))) F2 H (L2.wipe σ vs) ρ2 ∧ DrAll X.K X.mg F2 accV acc ∧ acc.length ≤ i ∧ compL vs g c e (items.drop i) ρ2 = .ok zs ρE ∧ acc ++ zs = ZS,
        ⟨items.length, rfl, Nat.zero_le _, F1, wipeL ρ1 vs, [], [], ZS, Same.refl _, Rel.guard (Rel.wipe R1 hom) hD, .nil, Nat.le_refl _, eC, rfl⟩, ?_⟩
      rintro i k H2 ⟨rfl, hle, F2, ρ2, acc, accV, zs, s2, R2, dA, hacc, eR, hZ⟩
      by_cases hlt : i < items.length
      · refine .inr ⟨w.go _ i F2 H2 _ ρ2 s2 R2 hlt, fun H' => i + 1 ≤ items.length ∧ ∃ F3 ρ3 acc accV zs, Same F1 F3 ∧ RelX X (B.wp (upd B.pr Dd (.lst accV))) F3 H' (L2.wipe σ vs) ρ3 ∧ DrAll X.K X.mg F3 accV acc ∧ acc.length ≤ i + 1 ∧ compL vs g c e (items.drop (i + 1)) ρ3 = .ok zs ρE ∧ acc ++ zs = ZS, fun H' ⟨h1, h2⟩ => ⟨items.length - (i + 1), by omega, rfl, h1, h2⟩, fun x H' y => ?_⟩
        have hd : items[i]? = some items[i] := List.getElem?_eq_getElem hlt
        obtain ⟨F3, s3, R3, hx⟩ := w.yld _ i F2 H2 _ ρ2 x H' items[i] s2 R2 hd y
        rw [List.drop_eq_getElem_cons hlt] at eR
        unfold compL at eR
        cases eg : g items[i] ρ2 with
        | none => rw [eg] at eR; cases eR
        | some ρ3 =>
          rw [eg] at eR
          refine ⟨_, F3, ρ2, items[i], ρ3, R3, hx, eg, fun σ3 u3 R4 => ⟨u3.wipe hts ▸ (by rw [wipe_wipe]), ?_⟩⟩
          refine ⟨_, F3, ρ3, R4, ?_⟩
          obtain ⟨b, ρ4, ec, eR⟩ := bnd_ok eR
          rw [ec]
          intro F4 H4 b' s4 R5 hb
          have hb : b' = b := hb
          subst hb
          have hwp : L2.wipe σ3 vs = L2.wipe σ vs := (u3.wipe hts).trans wipe_wipe
          cases b' with
          | false =>
            exact ⟨hlt, F4, wipeL ρ4 vs, acc, accV, zs, ((s2.trans s3).trans s4), hwp ▸ Rel.wipe R5 hom, dA.mono (s3.trans s4), by omega, eR, hZ⟩
          | true =>
            refine ⟨_, F4, ρ4, R5, ?_⟩
            rw [if_pos rfl] at eR
            obtain ⟨r, ρ5, ee, eR⟩ := bnd_ok eR
            rw [ee]
            intro F5 H5 yv s5 R6 ry
            cases r with
            | own _ => cases eR
            | bor _ => cases eR
            | val z =>
              obtain ⟨zs', ρ6, er, eR⟩ := bnd_ok eR
              cases eR
              refine ⟨accV, R6.prot Dd _ upd_same, by rw [dA.length, sizeLine_eq]; omega, hlt, F5, wipeL ρ5 vs, acc ++ [z], accV ++ [yv], zs', (((s2.trans s3).trans s4).trans s5), hwp ▸ Rel.wipe (Rel.bump R6 fD pD) hom, (dA.mono ((s3.trans s4).trans s5)).append (.one ry), ?_, er, ?_⟩
              · rw [List.length_append, List.length_singleton]; omega
              · rw [List.append_assoc]; exact hZ
      · have he : i = items.length := by omega
        subst he
        rw [List.drop_length] at eR
        obtain ⟨rfl, rfl⟩ : [] = zs ∧ ρ2 = ρE := by
          have eR : Out.ok [] ρ2 = Out.ok zs ρE := eR
          cases eR; exact ⟨rfl, rfl⟩
        rw [List.append_nil] at hZ
        subst hZ
        refine .inl ⟨w.stop _ _ F2 H2 _ ρ2 s2 R2 (Nat.le_refl _), ?_⟩
        have R3 := Rel.unwipe R1 s2 R2 (fun b o e => by
          by_cases hb : b = Dd
          · subst hb; rw [fD.2] at e; cases e
          · rw [upd_ne hb]; exact e)
        refine q1 F2 H2 _ s2 R3 ⟨Dd, rfl, R2.prF Dd _ upd_same, fD, fun j o' q z => ?_, accV, R2.prot Dd _ upd_same, dA⟩
        rcases restL_get q with ⟨h1, h2⟩ | h
        · have := R2.opr j o' Dd h2 (by rw [wipe_ne h1]; exact z)
          rw [show (B.wp (upd B.pr Dd (.lst accV))).pr Dd = some (.lst accV) from upd_same] at this; cases this
        · exact keepV_own h
  · rw [if_neg hlen] at q1; exact q1.elim
end
end FL
namespace FL
open PySem PySem.Spec L2
open PyProof.Rows hiding St
section
variable {X : Cx} {B : Bs} {W : WX}
abbrev blkX (X : Cx) (scope : Scope) (s : Shared) (H : Hp) (C : Addr) (cl : List (Str × Addr)) (fp : List Addr) : Cx := X.blk s H scope (compEnvC scope cl C X.env) fp
theorem fts_nil {X' : Cx} : FTs X' B [] (M.ret true) := .inl ⟨rfl, rfl⟩
theorem fts_one {X' : Cx} {c : Expr} {m : M Bool} (h : ∀ P, FT X' (B.wp P) W0 c m) : FTs X' B [c] m := .inr ⟨c, rfl, h⟩
variable {elt tg iter : Expr} {ifs : List Expr} {scope : Scope} {pos spos py : Pos} {mi : M (List Dt)} {g : Gt} {ts : List Nat} {c : M Bool} {e : M R}
theorem fe_comp (own : List (Str × Nat)) (hc : X.calm = true) (hN : X.N.Nodup) (ok : BlkOk X.N X.env.scope scope own) (hi : FI X B W tg iter mi)
    (hg : ∀ s H C cl fp P, FG (blkX X scope s H C cl fp) (B.wp P) tg g ts) (ht : ∀ s H C cl fp, FTs (blkX X scope s H C cl fp) B ifs c) (he : ∀ s H C cl fp P, FE (blkX X scope s H C cl fp) (B.wp P) W0 elt e)
    (hts : ∀ t ∈ ts, t ∈ own.map (·.2) := by decide) (hom : (own.map (·.2)).all (fun i => !B.om.contains i) = true := by rfl) (hs : ∀ x, foldedSetIterable iter X.env x = pure x := by intro _; rfl) :
    FE X B W (.ListComp elt [⟨tg, iter, ifs, 0⟩] scope pos) (mComp (own.map (·.2)) mi g c e) := by
  obtain ⟨wi, pi, ki⟩ := hi
  exact ⟨_, pe_lc (te := semE X B (mFrz e)) (tt := semT X B c) (g := semG X B g ts) hc hN pi ok (fun s H C cl fp => FG.sem (X := blkX X scope s H C cl fp) (hg s H C cl fp)) (fun s H C cl fp => FTs.sem (X := blkX X scope s H C cl fp) (ht s H C cl fp)) (fun s H C cl fp => FE.sem (X := blkX X scope s H C cl fp) (fun P => (he s H C cl fp P).frz)) hs, Tk.comp (g := g) (c := c) (e := e) ki hts (nmems hom)⟩
/-- name = [..] on one line -/
theorem fs_setLc (own : List (Str × Nat)) (i : Nat) {y : Str} (hc : X.calm = true) (hN : X.N.Nodup) (ok : BlkOk X.N X.env.scope scope own) (hi : FI X B W tg iter mi)
    (hg : ∀ s H C cl fp P, FG (blkX X scope s H C cl fp) (B.wp P) tg g ts) (ht : ∀ s H C cl fp, FTs (blkX X scope s H C cl fp) B ifs c) (he : ∀ s H C cl fp P, FE (blkX X scope s H C cl fp) (B.wp P) W0 elt e)
    (hsw : swapsWith (.ListComp elt [⟨tg, iter, ifs, 0⟩] scope pos) (some (.Name y py)) spos.line X.env = pure true) (hy : X.N[i]? = some y := by rfl) (hyl : X.env.scope.names.lookup y = some .local := by rfl) (hio : B.om.contains i = false := by rfl)
    (hts : ∀ t ∈ ts, t ∈ own.map (·.2) := by decide) (hom : (own.map (·.2)).all (fun i => !B.om.contains i) = true := by rfl) (hs : ∀ x, foldedSetIterable iter X.env x = pure x := by intro _; rfl) :
    FS X B W (.Assign [.Name y py] (.ListComp elt [⟨tg, iter, ifs, 0⟩] scope pos) spos) (sSet i (mComp (own.map (·.2)) mi g c e)) := by
  obtain ⟨wi, pi, ki⟩ := hi
  refine ⟨_, ps_setLc (te := semE X B (mFrz e)) (tt := semT X B c) (g := semG X B g ts) hc hN hy hyl hsw pi ok (fun s H C cl fp => FG.sem (X := blkX X scope s H C cl fp) (hg s H C cl fp)) (fun s H C cl fp => FTs.sem (X := blkX X scope s H C cl fp) (ht s H C cl fp)) (fun s H C cl fp => FE.sem (X := blkX X scope s H C cl fp) (fun P => (he s H C cl fp P).frz)) hs, fun F H σ ρ D R0 q => ?_⟩
  exact Tk.comp (g := g) (c := c) (e := e) ki hts (nmems hom) F H σ ρ _ R0 (q.bnd fun r ρ1 F1 H1 v s1 R1 rv q2 => putR_ok (nmem hio) R1 rv q2)
/-! ### raise -/
def sRaise (cn : Str) (fs : List Str) (ms : M (List R)) : St' := sBnd ms fun rs => match datas rs with
  | some ds => if ds.length = fs.length then (fun ρ => .er ⟨cn, fs.zip ds⟩ ρ) else sNo
  | none => sNo
/-- what making such an error asks and leaves -/
def mkT (C : Addr) (fs : List Str) (ta : TA) : L2.St → Hp → XK → Prop := fun σ H Q => ta σ H fun vs H1 => vs.length = fs.length ∧ ∀ d, H1 d = none → Q (.ref C) (some d) (upd H1 d (.xd (fs.zip vs)))
theorem drFs_zip {K : Fg} {mg : Mg} {F : Hp} : ∀ {fs : List Str} {vs : List V} {ds : List Dt}, DrAll K mg F vs ds → DrFs K mg F (fs.zip vs) (fs.zip ds)
  | [], _, _, _ => .nil
  | _ :: _, [], _, h => by cases h; exact .nil
  | f :: fs, v :: vs, _, h => by cases h with | cons h1 h2 => exact .cons h1 (drFs_zip h2)
theorem tkS_raise {cn : Str} {fs : List Str} {C : Addr} {ta : TA} {ms : M (List R)} (hC : X.mg cn = some (.ref C)) (k : TkA X B W ta ms) : TkS X B W (fun _ σ H => mkT C fs ta σ H fun cls d H' => W cls d σ H') (sRaise cn fs ms) := fun F H σ ρ D R0 q => by
  refine k F H σ ρ _ R0 (q.bnd fun rs ρ1 F1 H1 vs s1 R1 rvs q2 => ?_)
  cases e : datas rs with
  | none => rw [e] at q2; exact q2.elim
  | some ds =>
    rw [e] at q2
    dsimp only at q2
    by_cases hl : ds.length = fs.length
    · rw [if_pos hl] at q2
      have kd := datas_ok rvs e
      refine ⟨kd.length.trans hl, fun d hd => ?_⟩
      have s2 := same_upd (u := HO.xd (fs.zip vs)) (R1.fnone hd)
      exact q2 _ _ σ (.ref C) (some d) s2 (R1.alloc hd _) ⟨C, hC, rfl, .inr ⟨d, _, rfl, upd_same, drFs_zip (kd.mono s2)⟩⟩
    · rw [if_neg hl] at q2; exact q2.elim
/-- an own error without fields, made by C() -/
theorem pmk_own0 {C : Addr} {bmB : List Value} {B' newId initId : String} {x : Str} {p pos : Pos} (Fx : ExcBaseFacts B' newId initId bmB) (q : PySem.W.excIn X.K C bmB newId = true) (gC : X.mg x = some (.ref C)) (kC : PySem.W.keepIn X.K (.ref C) = true) (r : Raises X (.ref C)) (hg : Gl X x)
    (hdb : (x == ("__debug__" : Str)) = false) : PMk X (.Call (.Name x p) [] [] pos) (fun _ H Q => Q (.ref C) none H) := by
  intro pins s σ H Q I h
  refine wpAny_Call_Name_kw (ld_glob I hg gC ?_ hdb)
  refine PySem.W.callWith_K0 (first := []) I.kIn kC ?_
  obtain ⟨bm, N, nm, qn, bs, hdct, sn, sub, ab, col, dd, k0, k1, k2, k3, k5, mN, hC, hN, hni, T⟩ := exc_obj I.kIn q
  refine wpAny_call_exc_subT Fx T hC hN hni (fun h' e hm => ?_) (by show 0 ≤ sizeLine; omega)
  exact mk_of I hm r h (I.hok.gone hm.new)
structure Own0 (K : Fg) (mg : Mg) (cn : Str) (C : Addr) : Prop where
  gC : mg cn = some (.ref C)
  xC : PySem.W.excIn K C [.type "Exception", .type "BaseException", .type "object"] "Exception.__new__" = true
  kC : PySem.W.keepIn K (.ref C) = true
  exC : PySem.W.subIn K (.ref C) (.type "BaseException") = some true
  tyC : PySem.W.typeIn K (.ref C) = some (.type "type")
def sRaise0 (cn : Str) : St' := fun ρ => .er ⟨cn, []⟩ ρ
theorem fs_raise0 {cn : Str} {C : Addr} {p pos pos2 : Pos} (T : Own0 X.K X.mg cn C) (hc : X.calm = true) (tk : Takes X W) (hg : Gl X cn) (hdb : (cn == ("__debug__" : Str)) = false := by decide) : FS X B W (.Raise (some (.Call (.Name cn p) [] [] pos)) none pos2) (sRaise0 cn) :=
  ⟨_, ps_raise hc tk (pmk_own0 PySem.F.excBase_Exception T.xC T.gC T.kC (raises_own T.exC T.tyC) hg hdb), fun F H σ ρ D R0 q => q F H σ (.ref C) none (Same.refl _) R0 ⟨C, T.gC, rfl, .inl ⟨rfl, rfl⟩⟩⟩
end
end FL
namespace FL
open PySem PySem.Spec L2
open PyProof.Rows hiding St
section
variable {X : Cx} {B : Bs} {W : WX} {a : Expr} {pos : Pos} {m : M R}
def mUn (f : Int → Int) (m : M R) : M R := M.bnd m fun r => match r with
  | .val (.int i) => M.ret (.val (.int (f i)))
  | _ => M.no
theorem fe_neg (ha : FE X B W a m) : FE X B W (.UnaryOp .USub a pos) (mUn (fun i => -i) m) :=
  let ⟨_, p, k⟩ := ha
  ⟨_, pe_un un_neg p, fun F H σ ρ Q R0 q => k F H σ ρ _ R0 (q.bnd fun r ρ1 F1 H1 v s1 R1 rv q2 => by
    split at q2
    · cases rv; exact ⟨_, rfl, q2 F1 H1 _ (Same.refl _) R1 .int⟩
    · exact q2.elim)⟩
/-- a, b = e1, e2 -/
theorem fs_par (i j : Nat) {x y : Str} {b : Expr} {ms : M (List R)} {px py pt : Pos} {kt k2 pt2} (hc : X.calm = true) (hN : X.N.Nodup) (ha : FA X B W [a, b] ms) (hio : B.om.contains i = false := by rfl) (hjo : B.om.contains j = false := by rfl) (hi : X.N[i]? = some x := by rfl) (hj : X.N[j]? = some y := by rfl) (hij : i ≠ j := by decide)
    (hx : X.env.scope.names.lookup x = some .local := by rfl) (hy : X.env.scope.names.lookup y = some .local := by rfl) (hw : swappedStores [.Tuple [.Name x px, .Name y py] kt pt] (.Tuple [a, b] k2 pt2) X.env = pure (some [x, y]) := by rfl)
    (hs : swapsWithSole [.Tuple [.Name x px, .Name y py] kt pt] (.Tuple [a, b] k2 pt2) pos.line X.env = pure false := by rfl) : FS X B W (.Assign [.Tuple [.Name x px, .Name y py] kt pt] (.Tuple [a, b] k2 pt2) pos) (sPar i j ms) :=
  let ⟨_, p, k⟩ := ha
  ⟨_, ps_par hc hN hi hj hij hx hy p hw hs, tkS_par (nmem hio) (nmem hjo) k⟩
end
/-- a def that stands at the top -/
def DfAt (K : Fg) (mg : Mg) (x qual : Str) (st : Stmt) (ps : List Str) : Prop := ∃ f fd, Fun K x qual st f fd ∧ mg x = some (.ref f) ∧ Binds K fd ps []
/-- a def that keeps its mirror's promise -/
def DefOk (P : Program) (w : World) (K : Fg) (mg : Mg) (base : Heap) (x : Str) (k : Nat) (ps : List Str) (om : List Nat) (m : FM) : Prop := ∃ f fd, FnOk P w K mg base (L2.CX P w) k f fd ps (spM K mg ps.length om m) ∧ mg x = some (.ref f) ∧ PySem.W.keepIn K (.ref f) = true ∧ Binds K fd ps []
section
variable {P : Program} {w : World} {K : Fg} {mg : Mg} {base : Heap}
theorem def_ok {x qual : Str} {st : Stmt} {N ps : List Str} {k : Nat} {m : St'} {om : List Nat} (D : DfAt K mg x qual st ps) (S : FnScope N ps (defScope st)) (hom : ∀ k ∈ om, k < ps.length)
    (hb : ∀ (f : Addr) (cdv : Value) (A : Around) (outer : List Env) (s : Shared) (H : Hp) (E : XK) (Fe H0 : Hp) (s0 : L2.St), Room k (cxOf (L2.CX P w) P w K mg base N qual (defScope st) f cdv A outer s H E).A → Takes (cxOf (L2.CX P w) P w K mg base N qual (defScope st) f cdv A outer s H E) (WF E) →
      FSs (cxOf (L2.CX P w) P w K mg base N qual (defScope st) f cdv A outer s H E) ⟨Fe, H0, om, s0, none, fun _ => none⟩ (WF E) (defBody st) m) :
    DefOk P w K mg base x (k + 1) ps om (mFn N.length ps.length m) :=
  let ⟨f, fd, F, h, b⟩ := D
  ⟨f, fd, fn_ok F S hom (fun cdv A outer s H E Fe H0 s0 hr tk => hb f cdv A outer s H E Fe H0 s0 hr tk), h, F.kp, b⟩
end
section
variable {X : Cx} {B : Bs} {W : WX} {e : Expr} {es : List Expr} {pos p : Pos} {x : Str} {ms : M (List R)} {k n j : Nat} {ps : List Str} {fm : FM}
theorem fe_callD (G : DefOk X.prog X.w X.K X.mg X.base x k ps [] fm) (hr : Room k X.A) (hg : Gl X x) (tk : Takes X W) (ha : FA X B W (e :: es) ms) (hdb : (x == ("__debug__" : Str)) = false := by decide) (he : starEach (e :: es) X.env = (false, eval e X.env) :: starEach es X.env := by rfl) (hpl : (backTo pos (starEach es X.env)).any (·.1) = false := by rfl) :
    FE X B W (.Call (.Name x p) (e :: es) [] pos) (mCall ps.length fm ms) := let ⟨_, _, F, hm, hk, hb⟩ := G; fe_call F hr hg hm hk hb tk ha hdb he hpl
theorem fe_callDO (G : DefOk X.prog X.w X.K X.mg X.base x k ps [j] fm) (hr : Room k X.A) (hg : Gl X x) (tk : Takes X W) (ha : FA X B W (e :: es) ms) (hdb : (x == ("__debug__" : Str)) = false := by decide) (he : starEach (e :: es) X.env = (false, eval e X.env) :: starEach es X.env := by rfl) (hpl : (backTo pos (starEach es X.env)).any (·.1) = false := by rfl) :
    FE X B W (.Call (.Name x p) (e :: es) [] pos) (mCallO ps.length j fm ms) := let ⟨_, _, F, hm, hk, hb⟩ := G; fe_callO F hr hg hm hk hb tk ha hdb he hpl
end
/-! ### the law's own promise -/
def spLaw (K : Fg) : Sp := fun vs H Q _ => ∃ (a : Addr) (ns : List Int), vs = [.ref a] ∧ SqL K H a (ns.map V.int) ∧ ns.length ≤ 63 ∧ ∀ H', Q (.bl true) H'
theorem law_ok {P : Program} {w : World} {K : Fg} {mg : Mg} {base : Heap} {CX : CXT} {k : Nat} {f : Addr} {fd : FuncData} {ps : List Str} {m : FM} (G : FnOk P w K mg base CX k f fd ps (spM K mg 1 [] m)) (h : ∀ ns : List Int, ns.length ≤ 63 → ∃ ls, m [.val (.wls (ns.map .int))] = .ok (.val (.bl true)) ls) : FnOk P w K mg base CX k f fd ps (spLaw K) :=
  G.imp fun vs H Q E ⟨a, ns, hv, hS, hl, q⟩ => by
    obtain ⟨ls, e⟩ := h ns hl
    subst hv
    refine ⟨rfl, H, [.val (.wls (ns.map .int))], ⟨rfl, Same.refl _, fun i d hd => ?_, fun i o hd => ?_, fun k hk => (nomatch hk), fun i j a hi => (nomatch hi), fun i e hd => ?_⟩, ?_⟩
    · cases i with
      | zero => simp at hd; subst hd; exact ⟨_, rfl, .wls hS (DrAll.of_ints ns)⟩
      | succ i => simp at hd
    · cases i with
      | zero => simp at hd
      | succ i => simp at hd
    · cases i with
      | zero => simp at hd
      | succ i => simp at hd
    · unfold PoF
      rw [e]
      intro F' H' v _ hv
      cases hv
      exact q H'
theorem law_cx {P : Program} {w : World} {H : Hp} {s : Shared} {e : Value} {s' : Shared} (h : L2.CX P w [] H s (fun _ _ _ => False) e s') : False := by
  obtain ⟨_, _, _, _, _, _, _, _, _, _, _, _, z⟩ := h
  exact z
end FL
namespace FL
open PySem PySem.Spec L2
open PyProof.Rows hiding St
inductive AllT (mg : Mg) (Pr : Addr → Bool → Prop) : List (Str × Bool) → Prop
  | nil : AllT mg Pr []
  | cons {n : Str} {b : Bool} {l : List (Str × Bool)} : (∃ C, mg n = some (.ref C) ∧ Pr C b) → AllT mg Pr l → AllT mg Pr ((n, b) :: l)
theorem AllT.out {mg : Mg} {Pr : Addr → Bool → Prop} {l : List (Str × Bool)} (h : AllT mg Pr l) : ∀ cn b C, l.lookup cn = some b → mg cn = some (.ref C) → Pr C b := by
  induction h with
  | nil => intro cn b C h; cases h
  | @cons n b' l q t ih =>
    intro cn b C h g
    obtain ⟨C', g', p⟩ := q
    rw [List.lookup_cons] at h
    split at h
    · rename_i e
      have e' : cn = n := by simpa using e
      subst e'
      cases h
      rw [g'] at g
      cases g
      exact p
    · exact ih cn b C h g
theorem tbl_ok {K : Fg} {mg : Mg} {c : Value} {l : List (Str × Bool)} (h : AllT mg (fun C b => PySem.W.exmOne K (.ref C) c = some b) l) : ∀ cn b C, l.lookup cn = some b → mg cn = some (.ref C) → PySem.W.exmOne K (.ref C) c = some b := h.out
theorem tbi_ok {K : Fg} {mg : Mg} {C : Addr} {l : List (Str × Bool)} (h : AllT mg (fun D b => ExcC K D ∧ PySem.W.kitOne K (.ref D) (.ref C) = some b) l) : ∀ cn b D, l.lookup cn = some b → mg cn = some (.ref D) → ExcC K D ∧ PySem.W.kitOne K (.ref D) (.ref C) = some b := h.out
/-! ### comparisons, as values, as tests, in chains -/
def OC (X : Cx) (B : Bs) (W : WX) (op : CmpOp) (g : R → R → M R) : Prop := ∃ r, OpR X (compareOp op) r ∧ OpS X B W r g
def mChain (g g' : R → R → M R) (ma mb mc : M R) : M R := M.bnd ma fun a => M.stay a (M.bnd mb fun b => M.stay b (M.bnd (g a b) fun z => match z with
  | .val (.bl true) => M.bnd mc fun c => g' b c
  | .val (.bl false) => M.ret (.val (.bl false))
  | _ => M.no))
section
variable {X : Cx} {B : Bs} {W : WX} {a b c : Expr} {pos : Pos} {ma mb mc : M R} {op op' : CmpOp} {g g' : R → R → M R}
theorem fe_oc (h : OC X B W op g) (ha : FE X B W a ma) (hb : FE X B W b mb) (hm : behindInMarks op b = false := by first | exact nomark _ | rfl) : FE X B W (.Compare a [op] [b] pos) (m2 g ma mb) :=
  let ⟨_, ho, hg⟩ := h; let ⟨_, pa, ka⟩ := ha; let ⟨_, pb, kb⟩ := hb; ⟨_, pe_cmpR ho pa pb hm, .op hg ka kb⟩
theorem ft_oc (h : OC X B W op g) (ha : FE X B W a ma) (hb : FE X B W b mb) (hm : behindInMarks op b = false := by first | exact nomark _ | rfl) : FT X B W (.Compare a [op] [b] pos) (mBool (m2 g ma mb)) :=
  let ⟨_, ho, hg⟩ := h; let ⟨_, pa, ka⟩ := ha; let ⟨_, pb, kb⟩ := hb; ⟨_, pt_cmpR ho pa pb hm, .bool (.op hg ka kb)⟩
theorem Tk.chain {r r' : R2} {ta tb tc : TE} (hg : OpS X B W r g) (hg' : OpS X B W r' g') (ha : Tk X B W ta ma) (hb : Tk X B W tb mb) (hc : Tk X B W tc mc) : Tk X B W (tChain r r' ta tb tc) (mChain g g' ma mb mc) := fun F H σ ρ Q R0 p => by
  refine ha F H σ ρ _ R0 (p.bnd fun a ρ1 F1 H1 x s1 R1 ra q => ?_)
  obtain ⟨ns, q⟩ := stay_ok q
  refine hb F1 H1 σ ρ1 _ R1 (q.bnd fun b ρ2 F2 H2 y s2 R2 rb q2 => ?_)
  obtain ⟨ns2, q2⟩ := stay_ok q2
  refine hg F2 H2 σ ρ2 x y a b _ R2 (Rr.per ns s2 ra) rb (q2.bnd fun z ρ3 F3 H3 v s3 R3 rz q3 => ?_)
  split at q3
  · cases rz with | bl => ?_
    refine ⟨true, rfl, ?_⟩
    rw [if_pos rfl]
    refine hc F3 H3 σ ρ3 _ R3 (q3.bnd fun c ρ4 F4 H4 w s4 R4 rc q4 => ?_)
    exact hg' F4 H4 σ ρ4 y w b c Q R4 (Rr.per ns2 (s3.trans s4) rb) rc q4
  · cases rz with | bl => ?_
    refine ⟨false, rfl, ?_⟩
    rw [if_neg (by decide)]
    exact q3 F3 H3 _ (Same.refl _) R3 .bl
  · exact q3.elim
theorem fe_ch (h : OC X B W op g) (h' : OC X B W op' g') (ha : FE X B W a ma) (hb : FE X B W b mb) (hc : FE X B W c mc) (hm : lastMarks [op, op'] [b, c] = false := by with_unfolding_all rfl) : FE X B W (.Compare a [op, op'] [b, c] pos) (mChain g g' ma mb mc) :=
  let ⟨_, ho, hg⟩ := h; let ⟨_, ho', hg'⟩ := h'; let ⟨_, pa, ka⟩ := ha; let ⟨_, pb, kb⟩ := hb; let ⟨_, pc, kc⟩ := hc; ⟨_, pe_chain ho ho' pa pb pc hm, .chain hg hg' ka kb kc⟩
theorem ft_ch (h : OC X B W op g) (h' : OC X B W op' g') (ha : FE X B W a ma) (hb : FE X B W b mb) (hc : FE X B W c mc) (hm : lastMarks [op, op'] [b, c] = false := by with_unfolding_all rfl) : FT X B W (.Compare a [op, op'] [b, c] pos) (mBool (mChain g g' ma mb mc)) :=
  let ⟨_, ho, hg⟩ := h; let ⟨_, ho', hg'⟩ := h'; let ⟨_, pa, ka⟩ := ha; let ⟨_, pb, kb⟩ := hb; let ⟨_, pc, kc⟩ := hc; ⟨_, pt_chain ho ho' pa pb pc hm, .bool (.chain hg hg' ka kb kc)⟩
theorem oc_lt : OC X B W .Lt gLt := ⟨_, op_lt, .int0 fun _ _ _ => .bl⟩
theorem oc_le : OC X B W .LtE gLe := ⟨_, op_le, .int0 fun _ _ _ => .bl⟩
theorem oc_gt : OC X B W .Gt gGt := ⟨_, op_gt, .int0 fun _ _ _ => .bl⟩
theorem oc_ge : OC X B W .GtE gGe := ⟨_, op_ge, .int0 fun _ _ _ => .bl⟩
theorem oc_eq {k : Nat} (hr : Room k X.A) : OC X B W .Eq (gD dEq) := ⟨_, op_eqD hr.units, OpS.eq⟩
theorem oc_ne {k : Nat} (hr : Room k X.A) : OC X B W .NotEq (gD dNe) := ⟨_, op_neD hr.units, OpS.ne⟩
theorem oc_isN : OC X B W .Is (gD dIsN) := ⟨_, op_isN, OpS.isN⟩
theorem oc_notN : OC X B W .IsNot (gD dNotN) := ⟨_, op_notN, OpS.notN⟩
end
/-! ### a, b = e -/
section
variable {X : Cx} {B : Bs} {W : WX} {tg e : Expr} {pos : Pos} {me : M R}
def sUnp (g : Gt) (me : M R) : St' := sBnd me fun r => match r with
  | .val d => fun ρ => match g d ρ with
    | some ρ' => .nx ρ'
    | none => .bad
  | _ => sNo
theorem fs_unp {g : Gt} {ts : List Nat} (he : FE X B W e me) (hg : FG X B tg g ts) (hs : swapsWithSole [tg] e pos.line X.env = pure false := by rfl) (hw : swappedStores [tg] e X.env = pure none := by rfl) (h1 : (assignEach [tg] X.env).map (·.2) = [assign tg X.env] := by rfl) : FS X B W (.Assign [tg] e pos) (sUnp g me) :=
  let ⟨_, p, k⟩ := he; let ⟨_, p2, k2⟩ := hg
  ⟨_, ps_asg p p2 hs hw h1, fun F H σ ρ D R0 q => k F H σ ρ _ R0 (q.bnd fun r ρ1 F1 H1 v s1 R1 rv q2 => by
    split at q2
    · rename_i d
      cases e1 : g d ρ1 with
      | none => rw [e1] at q2; exact q2.elim
      | some ρ' =>
        rw [e1] at q2
        exact k2 F1 H1 σ ρ1 ρ' v d _ R1 rv e1 fun σ' _ R2 => q2 F1 H1 σ' (Same.refl _) R2
    · exact q2.elim)⟩
end
end FL
namespace FL
open PySem PySem.Spec L2
open PyProof.Rows hiding St
structure En where
  nx : List L → Prop
  rt : R → List L → Prop
  bk : List L → Prop
  ct : List L → Prop
  er : Er → List L → Prop
def En.suite (i : Nat) (D : En) : En := ⟨fun ρ => noExc (ρ.set i .non) = true ∧ D.nx (ρ.set i .non), fun r ρ => noExc (ρ.set i .non) = true ∧ D.rt r (ρ.set i .non), fun ρ => noExc (ρ.set i .non) = true ∧ D.bk (ρ.set i .non), fun ρ => noExc (ρ.set i .non) = true ∧ D.ct (ρ.set i .non), fun _ _ => False⟩
def enF (n : Nat) (Q : R → List L → Prop) (E : Er → List L → Prop) : En := ⟨fun ρ => Q (.val .non) (ρ.take n), fun r ρ => match r with
  | .bor _ => False
  | r => Q r (ρ.take n), fun _ => False, fun _ => False, fun e ρ => E e (ρ.take n)⟩
namespace Raw
/-! ### the plain law's calculus: what a mirror's run leads to -/
def Wp {α : Type} (m : M α) (ρ : List L) (Q : α → List L → Prop) (E : Er → List L → Prop) : Prop := match m ρ with
  | .ok a ρ' => Q a ρ'
  | .er e ρ' => E e ρ'
  | .bad => False
def Wo (o : Out R) (Q : R → List L → Prop) (E : Er → List L → Prop) : Prop := match o with
  | .ok a ρ' => Q a ρ'
  | .er e ρ' => E e ρ'
  | .bad => False
def Ws (m : St') (ρ : List L) (D : En) : Prop := match m ρ with
  | .nx ρ' => D.nx ρ'
  | .rt r ρ' => D.rt r ρ'
  | .bk ρ' => D.bk ρ'
  | .ct ρ' => D.ct ρ'
  | .er e ρ' => D.er e ρ'
  | .bad => False
section
variable {α β : Type} {ρ : List L} {Q : α → List L → Prop} {E : Er → List L → Prop} {D : En}
theorem Wp_ret {a : α} : Wp (M.ret a) ρ Q E = Q a ρ := rfl
theorem Wp_no : Wp (M.no : M α) ρ Q E = False := rfl
theorem Wp_bnd {m : M β} {f : β → M α} : Wp (M.bnd m f) ρ Q E = Wp m ρ (fun a ρ' => Wp (f a) ρ' Q E) E := by
  unfold Wp M.bnd
  cases m ρ <;> rfl
theorem Wp_ite {c : Prop} [Decidable c] {m n : M α} : Wp (if c then m else n) ρ Q E = ((c → Wp m ρ Q E) ∧ (¬ c → Wp n ρ Q E)) := by
  by_cases h : c
  · rw [if_pos h]; simp [h]
  · rw [if_neg h]; simp [h]
theorem stay_val {d : Dt} {m : M α} : M.stay (.val d) m = m := rfl
theorem stay_bor {i : Nat} {m : M α} : M.stay (.bor i) m = m := rfl
variable {Q : R → List L → Prop} {QB : Bool → List L → Prop}
theorem Wp_m2 {g : R → R → M R} {m n : M R} : Wp (m2 g m n) ρ Q E = Wp m ρ (fun a ρ' => Wp (M.stay a (M.bnd n fun b => g a b)) ρ' Q E) E := Wp_bnd
theorem Wp_var {i : Nat} : Wp (mVar i) ρ Q E = (match ρ[i]? with
  | some (.val d) => Q (.val d) ρ
  | some (.own o) => Q (.val o.frz) (ρ.set i (.val o.frz))
  | _ => False) := by
  unfold Wp mVar
  cases ρ[i]? with
  | none => rfl
  | some l => cases l <;> rfl
theorem Wp_peek {i : Nat} : Wp (mPeek i) ρ Q E = (match ρ[i]? with
  | some (.val d) => Q (.val d) ρ
  | some (.own o) => Q (.bor i) ρ
  | _ => False) := by
  unfold Wp mPeek
  cases ρ[i]? with
  | none => rfl
  | some l => cases l <;> rfl
theorem Wp_move {i : Nat} : Wp (mMove i) ρ Q E = (match ρ[i]? with
  | some (.val d) => Q (.val d) ρ
  | some (.own o) => Q (.own o) (ρ.set i .non)
  | _ => False) := by
  unfold Wp mMove
  cases ρ[i]? with
  | none => rfl
  | some l => cases l <;> rfl
theorem Wp_frz {m : M R} : Wp (mFrz m) ρ Q E = Wp m ρ (fun r ρ' => Q r.frz ρ') E := by
  unfold mFrz; rw [Wp_bnd]; rfl
theorem frz_own {o : Ob} : (R.own o).frz = .val o.frz := rfl
theorem frz_val {d : Dt} : (R.val d).frz = .val d := rfl
theorem frz_lst {ds : List Dt} : (Ob.lst ds).frz = .lst ds := rfl
theorem Wp_gI {C : Int → Int → Bool} {f : Int → Int → Dt} {i j : Int} : Wp (gI C f (.val (.int i)) (.val (.int j))) ρ Q E = (C i j = true ∧ Q (.val (f i j)) ρ) := by
  unfold gI; dsimp only
  cases h : C i j
  · rw [if_neg (by decide)]; simp [Wp_no]
  · rw [if_pos rfl]; simp [Wp_ret]
theorem Wp_gD {f : Dt → Dt → Option Dt} {a b : R} : Wp (gD f a b) ρ Q E = (match a.dt ρ with
  | some d => match b.dt ρ with
    | some e => match f d e with
      | some z => Q (.val z) ρ
      | none => False
    | none => False
  | none => False) := by
  unfold Wp gD
  cases a.dt ρ with
  | none => rfl
  | some d =>
    cases b.dt ρ with
    | none => rfl
    | some e => dsimp only; cases f d e <;> rfl
theorem Wp_g1 {f : Dt → Option Dt} {a : R} : Wp (g1 f [a]) ρ Q E = (match a.dt ρ with
  | some d => match f d with
    | some z => Q (.val z) ρ
    | none => False
  | none => False) := by
  unfold Wp g1
  dsimp only
  cases a.dt ρ with
  | none => rfl
  | some d => dsimp only; cases f d <;> rfl
theorem Wp_g2I {f : Int → Int → Dt} {i j : Int} : Wp (g2I f [.val (.int i), .val (.int j)]) ρ Q E = Q (.val (f i j)) ρ := rfl
theorem dt_val {d : Dt} : R.dt ρ (.val d) = some d := rfl
theorem dt_own {o : Ob} : R.dt ρ (.own o) = some o.frz := rfl
theorem dt_bor {i : Nat} : R.dt ρ (.bor i) = (match ρ[i]? with
    | some (.val d) => some d
    | some (.own o) => some o.frz
    | _ => none) := by
  unfold R.dt
  first
    | rfl
    | (dsimp only
       cases ρ[i]? with
       | none => rfl
       | some l => cases l <;> rfl)
theorem Wp_isa {Ts : List String} {m : M R} : Wp (mIsa Ts m) ρ Q E = Wp m ρ (fun r ρ' => Wp (g1 (dIsa Ts) [r]) ρ' Q E) E := Wp_bnd
theorem Wp_bool {m : M R} : Wp (mBool m) ρ QB E = Wp m ρ (fun r ρ' => match r with
  | .val (.bl b) => QB b ρ'
  | _ => False) E := by
  unfold mBool; rw [Wp_bnd]
  congr 1; funext r ρ'
  cases r with
  | val d => cases d <;> rfl
  | _ => rfl
theorem Wp_tru {m : M R} : Wp (mTru m) ρ QB E = Wp m ρ (fun r ρ' => match r.dt ρ' with
  | some d => match d.tru with
    | some b => QB b ρ'
    | none => False
  | none => False) E := by
  unfold mTru; rw [Wp_bnd]
  congr 1; funext r ρ'
  unfold Wp
  dsimp only
  cases r.dt ρ' with
  | none => rfl
  | some d => dsimp only; cases d.tru <;> rfl
theorem Wp_not {m : M Bool} : Wp (mNot m) ρ QB E = Wp m ρ (fun b ρ' => QB (!b) ρ') E := by unfold mNot; rw [Wp_bnd]; rfl
theorem Wp_and {m n : M Bool} : Wp (mAnd m n) ρ QB E = Wp m ρ (fun b ρ' => (b = true → Wp n ρ' QB E) ∧ (b = false → QB false ρ')) E := by
  unfold mAnd; rw [Wp_bnd]; congr 1; funext b ρ'; cases b <;> simp [Wp_ret]
theorem Wp_or {m n : M Bool} : Wp (mOr m n) ρ QB E = Wp m ρ (fun b ρ' => (b = true → QB true ρ') ∧ (b = false → Wp n ρ' QB E)) E := by
  unfold mOr; rw [Wp_bnd]; congr 1; funext b ρ'; cases b <;> simp [Wp_ret]
theorem Wp_ofB {m : M Bool} : Wp (mOfB m) ρ Q E = Wp m ρ (fun b ρ' => Q (.val (.bl b)) ρ') E := by unfold mOfB; rw [Wp_bnd]; rfl
theorem Wp_if {c : M Bool} {m n : M R} : Wp (mIf c m n) ρ Q E = Wp c ρ (fun b ρ' => (b = true → Wp m ρ' Q E) ∧ (b = false → Wp n ρ' Q E)) E := by
  unfold mIf; rw [Wp_bnd]; congr 1; funext b ρ'; cases b <;> simp
theorem Wp_andV {m n : M R} : Wp (mAndV m n) ρ Q E = Wp (mBool m) ρ (fun b ρ' => (b = true → Wp n ρ' Q E) ∧ (b = false → Q (.val (.bl false)) ρ')) E := by
  unfold mAndV; rw [Wp_bnd]; congr 1; funext b ρ'; cases b <;> simp [Wp_ret]
theorem Wp_orV {m n : M R} : Wp (mOrV m n) ρ Q E = Wp (mBool m) ρ (fun b ρ' => (b = true → Q (.val (.bl true)) ρ') ∧ (b = false → Wp n ρ' Q E)) E := by
  unfold mOrV; rw [Wp_bnd]; congr 1; funext b ρ'; cases b <;> simp [Wp_ret]
theorem Wp_un {f : Int → Int} {m : M R} : Wp (mUn f m) ρ Q E = Wp m ρ (fun r ρ' => match r with
  | .val (.int i) => Q (.val (.int (f i))) ρ'
  | _ => False) E := by
  unfold mUn; rw [Wp_bnd]
  congr 1; funext r ρ'
  cases r with
  | val d => cases d <;> rfl
  | _ => rfl
variable {QL : List R → List L → Prop}
theorem Wp_nil : Wp mNil ρ QL E = QL [] ρ := rfl
theorem Wp_cons {m : M R} {ms : M (List R)} : Wp (mCons m ms) ρ QL E = Wp m ρ (fun r ρ' => Wp (M.stay r (M.bnd ms fun rs => M.ret (r :: rs))) ρ' QL E) E := Wp_bnd
theorem datas_nil : datas [] = some [] := rfl
theorem datas_cons {d : Dt} {rs : List R} : datas (.val d :: rs) = (datas rs).map (d :: ·) := rfl
theorem vals_nil : vals [] = some [] := rfl
theorem vals_cons {d : Dt} {rs : List R} : vals (.val d :: rs) = (vals rs).map (L.val d :: ·) := rfl
theorem Wp_disp {f : List Dt → R} {ms : M (List R)} : Wp (mDisp f ms) ρ Q E = Wp ms ρ (fun rs ρ' => match datas rs with
  | some ds => ds.length ≤ 16777216 ∧ Q (f ds) ρ'
  | none => False) E := by
  unfold mDisp; rw [Wp_bnd]; congr 1; funext rs ρ'
  cases datas rs with
  | none => rfl
  | some ds =>
    dsimp only
    by_cases h : ds.length ≤ 16777216
    · rw [if_pos h]; simp [h, Wp_ret]
    · rw [if_neg h]; simp [h, Wp_no]
theorem Wp_tup {ms : M (List R)} : Wp (mTup ms) ρ Q E = Wp ms ρ (fun rs ρ' => match datas rs with
  | some ds => ds.length ≤ 16777216 ∧ Q (.val (.tup ds)) ρ'
  | none => False) E := Wp_disp
theorem Wp_lst {ms : M (List R)} : Wp (mLst ms) ρ Q E = Wp ms ρ (fun rs ρ' => match datas rs with
  | some ds => ds.length ≤ 16777216 ∧ Q (.own (.lst ds)) ρ'
  | none => False) E := Wp_disp
theorem Wp_call {n : Nat} {f : FM} {ms : M (List R)} : Wp (mCall n f ms) ρ Q E = Wp ms ρ (fun rs ρ' => rs.length = n ∧ match vals rs with
  | some ls => Wo (f ls) (fun r _ => Q r ρ') (fun e _ => E e ρ')
  | none => False) E := by
  unfold mCall; rw [Wp_bnd]; congr 1; funext rs ρ'
  unfold Wp
  dsimp only
  by_cases h : rs.length = n
  · rw [if_pos h]
    cases vals rs with
    | none => simp
    | some ls => dsimp only; unfold Wo; cases f ls <;> simp [h]
  · rw [if_neg h]; simp [h]
theorem Wp_callO {n k : Nat} {f : FM} {ms : M (List R)} : Wp (mCallO n k f ms) ρ Q E = Wp ms ρ (fun rs ρ' => rs.length = n ∧ match rs[k]? with
  | some (.bor i) => match ρ'[i]? with
    | some (.own o) => match vals (rs.set k (.val .non)) with
      | some ls => Wo (f (ls.set k (.own o))) (fun r ls' => match ls'[k]? with
        | some l => Q r (ρ'.set i l.back)
        | none => False) (fun e ls' => match ls'[k]? with
        | some l => E e (ρ'.set i l.back)
        | none => False)
      | none => False
    | _ => False
  | _ => False) E := by
  unfold mCallO; rw [Wp_bnd]; congr 1; funext rs ρ'
  unfold Wp
  dsimp only
  by_cases h : rs.length = n
  · rw [if_pos h]
    cases rs[k]? with
    | none => simp
    | some r =>
      cases r with
      | val d => simp
      | own o => simp
      | bor i =>
        dsimp only
        cases ρ'[i]? with
        | none => simp
        | some l =>
          cases l with
          | own o =>
            dsimp only
            cases vals (rs.set k (.val .non)) with
            | none => simp
            | some ls =>
              dsimp only
              unfold Wo
              cases f (ls.set k (.own o)) with
              | bad => simp
              | ok r ls' => dsimp only; cases ls'[k]? <;> simp [h]
              | er r ls' => dsimp only; cases ls'[k]? <;> simp [h]
          | _ => simp
  · rw [if_neg h]; simp [h]
theorem Wp_set {i : Nat} {f : List Dt → Option (List Dt × Dt)} : Wp (setO i f) ρ Q E = (match ρ[i]? with
  | some (.own (.lst ds)) => match f ds with
    | some (es, z) => Q (.val z) (ρ.set i (.own (.lst es)))
    | none => False
  | _ => False) := by
  unfold Wp setO
  cases ρ[i]? with
  | none => rfl
  | some l =>
    cases l with
    | own o =>
      cases o with
      | lst ds => dsimp only; cases f ds <;> rfl
      | _ => rfl
    | _ => rfl
theorem Wp_at {i : Nat} {m : M R} : Wp (atO i m) ρ Q E = (match ρ[i]? with
  | some (.own (.lst _)) => Wp m ρ Q E
  | _ => False) := by
  unfold Wp atO
  cases ρ[i]? with
  | none => rfl
  | some l =>
    cases l with
    | own o => cases o <;> rfl
    | _ => rfl
theorem Wp_app {i : Nat} {m : M R} : Wp (mAppend i m) ρ Q E = (match ρ[i]? with
  | some (.own (.lst _)) => Wp m ρ (fun r ρ' => match r with
    | .val d => match ρ'[i]? with
      | some (.own (.lst ds)) => ds.length < 16777216 ∧ Q (.val .non) (ρ'.set i (.own (.lst (ds ++ [d]))))
      | _ => False
    | _ => False) E
  | _ => False) := by
  unfold mAppend; rw [Wp_at]
  cases ρ[i]? with
  | none => rfl
  | some l =>
    cases l with
    | own o =>
      cases o with
      | lst ds0 =>
        dsimp only
        rw [Wp_bnd]; congr 1; funext r ρ'
        cases r with
        | val d =>
          dsimp only
          rw [Wp_set]
          cases ρ'[i]? with
          | none => rfl
          | some l =>
            cases l with
            | own o =>
              cases o with
              | lst ds =>
                dsimp only
                by_cases h : ds.length < 16777216
                · rw [if_pos h]; simp [h]
                · rw [if_neg h]; simp [h]
              | _ => rfl
            | _ => rfl
        | _ => rfl
      | _ => rfl
    | _ => rfl
theorem Wp_pop {i : Nat} : Wp (mPop i) ρ Q E = (match ρ[i]? with
  | some (.own (.lst ds)) => match ds[ds.length - 1]? with
    | some z => Q (.val z) (ρ.set i (.own (.lst ds.dropLast)))
    | none => False
  | _ => False) := by
  unfold mPop; rw [Wp_set]
  cases ρ[i]? with
  | none => rfl
  | some l =>
    cases l with
    | own o =>
      cases o with
      | lst ds => dsimp only; cases ds[ds.length - 1]? <;> rfl
      | _ => rfl
    | _ => rfl
theorem Wp_rev {i : Nat} : Wp (mReverse i) ρ Q E = (match ρ[i]? with
  | some (.own (.lst ds)) => Q (.val .non) (ρ.set i (.own (.lst ds.reverse)))
  | _ => False) := by
  unfold mReverse; rw [Wp_set]
variable {QI : List Dt → List L → Prop}
theorem Wp_range1 {ms : M (List R)} : Wp (mRange1 ms) ρ QI E = Wp ms ρ (fun rs ρ' => match rs with
  | [.val (.int j)] => small j = true ∧ QI (rangeD 0 j) ρ'
  | _ => False) E := by
  unfold mRange1; rw [Wp_bnd]; congr 1; funext rs ρ'
  split
  · rename_i j
    cases h : small j <;> simp [Wp_ret, Wp_no, h]
  · rename_i h
    first
      | exact Wp_no
      | (split
         · rename_i j; exact absurd rfl (h j)
         · exact Wp_no)
theorem Wp_range2 {ms : M (List R)} : Wp (mRange2 ms) ρ QI E = Wp ms ρ (fun rs ρ' => match rs with
  | [.val (.int i), .val (.int j)] => (small i = true ∧ small j = true) ∧ QI (rangeD i j) ρ'
  | _ => False) E := by
  unfold mRange2; rw [Wp_bnd]; congr 1; funext rs ρ'
  split
  · rename_i i j
    cases h : small i <;> cases h2 : small j <;> simp [Wp_ret, Wp_no, h, h2]
  · rename_i h
    first
      | exact Wp_no
      | (split
         · rename_i i j; exact absurd rfl (h i j)
         · exact Wp_no)
theorem Wp_err {i : Nat} {cn f : Str} : Wp (mErr i cn f) ρ Q E = (match ρ[i]? with
  | some (.exc e) => e.cls = cn ∧ match e.fs.lookup f with
    | some d => Q (.val d) ρ
    | none => False
  | _ => False) := by
  unfold Wp mErr
  cases ρ[i]? with
  | none => rfl
  | some l =>
    cases l with
    | exc e =>
      dsimp only
      by_cases h : e.cls = cn
      · rw [if_pos h]; cases e.fs.lookup f <;> simp [h]
      · rw [if_neg h]; simp [h]
    | _ => rfl
theorem Wp_erris {i : Nat} {tbl : Tbl} : Wp (mErrIs i tbl) ρ Q E = (match ρ[i]? with
  | some (.exc e) => match tbl e.cls with
    | some b => Q (.val (.bl b)) ρ
    | none => False
  | _ => False) := by
  unfold Wp mErrIs
  cases ρ[i]? with
  | none => rfl
  | some l =>
    cases l with
    | exc e => dsimp only; cases tbl e.cls <;> rfl
    | _ => rfl
/-! statements -/
theorem Ws_nx : Ws sNx ρ D = D.nx ρ := rfl
theorem Ws_bk : Ws sBk ρ D = D.bk ρ := rfl
theorem Ws_ct : Ws sCt ρ D = D.ct ρ := rfl
theorem Ws_retN : Ws sRetN ρ D = D.rt (.val .non) ρ := rfl
theorem Ws_bnd {m : M β} {f : β → St'} : Ws (sBnd m f) ρ D = Wp m ρ (fun a ρ' => Ws (f a) ρ' D) D.er := by
  unfold Ws sBnd Wp
  cases m ρ <;> rfl
theorem Ws_expr {m : M R} : Ws (sExpr m) ρ D = Wp m ρ (fun _ ρ' => D.nx ρ') D.er := Ws_bnd
theorem Ws_ret {m : M R} : Ws (sRet m) ρ D = Wp m ρ (fun r ρ' => D.rt r ρ') D.er := Ws_bnd
theorem Ws_if {c : M Bool} {m n : St'} : Ws (sIf c m n) ρ D = Wp c ρ (fun b ρ' => (b = true → Ws m ρ' D) ∧ (b = false → Ws n ρ' D)) D.er := by
  unfold sIf; rw [Ws_bnd]; congr 1; funext b ρ'; cases b <;> simp
theorem Ws_set {i : Nat} {m : M R} : Ws (sSet i m) ρ D = Wp m ρ (fun r ρ' => match r with
  | .val d => D.nx (ρ'.set i (.val d))
  | .own o => D.nx (ρ'.set i (.own o))
  | .bor _ => False) D.er := by
  unfold sSet; rw [Ws_bnd]; congr 1; funext r ρ'; cases r <;> rfl
theorem Ws_par {i j : Nat} {ms : M (List R)} : Ws (sPar i j ms) ρ D = Wp ms ρ (fun rs ρ' => match rs with
  | [.val d, .val e] => D.nx ((ρ'.set i (.val d)).set j (.val e))
  | _ => False) D.er := by
  unfold sPar; rw [Ws_bnd]; congr 1; funext rs ρ'
  match rs with
  | [] => rfl
  | [.val d] => rfl
  | [.val d, .val e] => rfl
  | .own _ :: _ => rfl
  | .bor _ :: _ => rfl
  | .val d :: .own _ :: _ => rfl
  | .val d :: .bor _ :: _ => rfl
  | .val d :: .val e :: _ :: _ => rfl
theorem Ws_unp {g : Gt} {m : M R} : Ws (sUnp g m) ρ D = Wp m ρ (fun r ρ' => match r with
  | .val d => match g d ρ' with
    | some ρ2 => D.nx ρ2
    | none => False
  | _ => False) D.er := by
  unfold sUnp; rw [Ws_bnd]; congr 1; funext r ρ'
  cases r with
  | val d => dsimp only; unfold Ws; dsimp only; cases g d ρ' <;> rfl
  | _ => rfl
theorem Ws_raise {cn : Str} {fs : List Str} {ms : M (List R)} : Ws (sRaise cn fs ms) ρ D = Wp ms ρ (fun rs ρ' => match datas rs with
  | some ds => ds.length = fs.length ∧ D.er ⟨cn, fs.zip ds⟩ ρ'
  | none => False) D.er := by
  unfold sRaise; rw [Ws_bnd]; congr 1; funext rs ρ'
  cases datas rs with
  | none => rfl
  | some ds =>
    dsimp only
    by_cases h : ds.length = fs.length
    · rw [if_pos h]; simp [h, Ws]
    · rw [if_neg h]; simp [h, Ws, sNo]
theorem Ws_raise0 {cn : Str} : Ws (sRaise0 cn) ρ D = D.er ⟨cn, []⟩ ρ := rfl
theorem Ws_try {m ms : St'} {tbl : Tbl} {i : Nat} : Ws (sTry m tbl i ms) ρ D = Ws m ρ { D with er := fun e ρ' => match tbl e.cls with
  | some true => Ws ms (ρ'.set i (.exc e)) (En.suite i D)
  | some false => D.er e ρ'
  | none => False } := by
  unfold Ws sTry
  cases m ρ with
  | er e ρ' =>
    dsimp only
    cases tbl e.cls with
    | none => rfl
    | some b =>
      cases b with
      | false => rfl
      | true =>
        dsimp only
        unfold En.suite
        cases ms (ρ'.set i (.exc e)) with
        | bad => rfl
        | er e ρ' => rfl
        | nx ρ'' => unfold sEnd; dsimp only; by_cases h : noExc (ρ''.set i .non) = true <;> simp [h]
        | bk ρ'' => unfold sEnd; dsimp only; by_cases h : noExc (ρ''.set i .non) = true <;> simp [h]
        | ct ρ'' => unfold sEnd; dsimp only; by_cases h : noExc (ρ''.set i .non) = true <;> simp [h]
        | rt r ρ'' => unfold sEnd; dsimp only; by_cases h : noExc (ρ''.set i .non) = true <;> simp [h]
  | _ => rfl
theorem ws_seq {m n : St'} (h : ∀ K : List L → Prop, (∀ ρ', Ws n ρ' D → K ρ') → Ws m ρ { D with nx := K }) : Ws (sSeq m n) ρ D := by
  have q := h (fun ρ' => Ws n ρ' D) fun _ z => z
  unfold Ws at q ⊢
  unfold sSeq
  cases e : m ρ <;> rw [e] at q <;> exact q
theorem Ws.mono {m : St'} {D' : En} (h : Ws m ρ D) (k1 : ∀ ρ, D.nx ρ → D'.nx ρ) (k2 : ∀ r ρ, D.rt r ρ → D'.rt r ρ) (k3 : ∀ ρ, D.bk ρ → D'.bk ρ) (k4 : ∀ ρ, D.ct ρ → D'.ct ρ) (k5 : ∀ e ρ, D.er e ρ → D'.er e ρ) : Ws m ρ D' := by
  unfold Ws at h ⊢
  cases e : m ρ <;> rw [e] at h
  · exact k1 _ h
  · exact k2 _ _ h
  · exact k3 _ h
  · exact k4 _ h
  · exact k5 _ _ h
  · exact h
theorem Wp.mono {m : M α} {Q Q' : α → List L → Prop} {E' : Er → List L → Prop} (h : Wp m ρ Q E) (k : ∀ a ρ, Q a ρ → Q' a ρ) (k5 : ∀ e ρ, E e ρ → E' e ρ) : Wp m ρ Q' E' := by
  unfold Wp at h ⊢
  cases e : m ρ <;> rw [e] at h
  · exact k _ _ h
  · exact k5 _ _ h
  · exact h
theorem Wo.mono {o : Out R} {Q Q' : R → List L → Prop} {E' : Er → List L → Prop} (h : Wo o Q E) (k : ∀ a ρ, Q a ρ → Q' a ρ) (k5 : ∀ e ρ, E e ρ → E' e ρ) : Wo o Q' E' := by
  unfold Wo at h ⊢
  cases o
  · exact k _ _ h
  · exact k5 _ _ h
  · exact h
theorem wo_fn {nN n : Nat} {b : St'} {ls : List L} (h : Ws b (ls ++ List.replicate (nN - n) .non) (enF n Q E)) : Wo (mFn nN n b ls) Q E := by
  unfold Wo mFn
  unfold Ws at h
  cases e : b (ls ++ List.replicate (nN - n) .non) with
  | rt r ρ => rw [e] at h; cases r <;> exact h
  | _ => rw [e] at h; exact h
/-- a loop over items: an invariant over what is left -/
theorem sForL_ok {g : Gt} {body : St'} (I : List Dt → List L → Prop) (hs : ∀ d ds ρ, I (d :: ds) ρ → match g d ρ with
    | some ρ1 => Ws body ρ1 ⟨I ds, D.rt, D.nx, I ds, D.er⟩
    | none => False) (he : ∀ ρ, I [] ρ → D.nx ρ) : ∀ {ds : List Dt} {ρ : List L}, I ds ρ → Ws (sForL g body ds) ρ D
  | [], _, h => he _ h
  | d :: ds, ρ, h => by
    have q := hs d ds ρ h
    unfold Ws sForL
    cases e : g d ρ with
    | none => rw [e] at q; exact q.elim
    | some ρ1 =>
      rw [e] at q
      unfold Ws at q
      dsimp only at q ⊢
      cases e2 : body ρ1 with
      | nx ρ2 => rw [e2] at q; exact sForL_ok I hs he q
      | ct ρ2 => rw [e2] at q; exact sForL_ok I hs he q
      | bk ρ2 => rw [e2] at q; exact q
      | rt r ρ2 => rw [e2] at q; exact q
      | er e ρ2 => rw [e2] at q; exact q
      | bad => rw [e2] at q; exact q
theorem ws_for {mi : M (List Dt)} {g : Gt} {body : St'} (h : Wp mi ρ (fun items ρ' => Ws (sForL g body items) ρ' D) D.er) : Ws (sFor mi g body) ρ D := by
  unfold sFor; rw [Ws_bnd]; exact h
theorem rangeD_cons {i n : Int} (h : i < n) : rangeD i n = .int i :: rangeD (i + 1) n := by
  unfold rangeD
  obtain ⟨k, hk⟩ : ∃ k : Nat, n - i = k + 1 := ⟨(n - i - 1).toNat, by omega⟩
  rw [show (n - i).toNat = k + 1 by omega, show (n - (i + 1)).toNat = k by omega, List.range_succ_eq_map, List.map_cons, List.map_map]
  congr 1
  · simp
  · apply List.map_congr_left
    intro a _
    simp only [Function.comp, Dt.int.injEq]
    omega
theorem rangeD_nil {i n : Int} (h : n ≤ i) : rangeD i n = [] := by
  unfold rangeD
  rw [show (n - i).toNat = 0 by omega]; rfl
theorem ws_forR {g : Gt} {body : St'} {lo n : Int} (I : Int → List L → Prop) (h0 : I lo ρ) (hn : lo ≤ n) (hs : ∀ i ρ, lo ≤ i → i < n → I i ρ → match g (.int i) ρ with
    | some ρ1 => Ws body ρ1 ⟨I (i + 1), D.rt, D.nx, I (i + 1), D.er⟩
    | none => False) (he : ∀ ρ, I n ρ → D.nx ρ) : Ws (sForL g body (rangeD lo n)) ρ D := by
  refine sForL_ok (fun ds ρ => ∃ i, lo ≤ i ∧ i ≤ n ∧ ds = rangeD i n ∧ I i ρ) (fun d ds ρ ⟨i, h1, h2, h3, h4⟩ => ?_) (fun ρ ⟨i, h1, h2, h3, h4⟩ => ?_) ⟨lo, Int.le_refl _, hn, rfl, h0⟩
  · by_cases hi : i < n
    · rw [rangeD_cons hi] at h3
      cases h3
      have q := hs i ρ h1 hi h4
      cases e : g (.int i) ρ with
      | none => rw [e] at q; exact q
      | some ρ1 =>
        rw [e] at q
        exact Ws.mono q (fun ρ z => ⟨i + 1, by omega, by omega, rfl, z⟩) (fun _ _ z => z) (fun _ z => z) (fun ρ z => ⟨i + 1, by omega, by omega, rfl, z⟩) (fun _ _ z => z)
    · rw [rangeD_nil (by omega)] at h3; cases h3
  · by_cases hi : i < n
    · rw [rangeD_cons hi] at h3; cases h3
    · have : i = n := by omega
      subst this; exact he ρ h4
theorem ws_while {c : M Bool} {body : St'} {N k0 : Nat} (I : Nat → List L → Prop) (h0 : I k0 ρ) (hk : k0 < N) (hs : ∀ k ρ, k ≤ k0 → I k ρ → Wp c ρ (fun b ρ' => (b = true → Ws body ρ' ⟨fun ρ2 => ∃ j, j < k ∧ I j ρ2, D.rt, D.nx, fun ρ2 => ∃ j, j < k ∧ I j ρ2, D.er⟩) ∧ (b = false → D.nx ρ')) D.er) : Ws (sWhile N c body) ρ D := by
  have key : ∀ (N k : Nat) (ρ : List L), k ≤ k0 → k < N → I k ρ → Ws (sWhile N c body) ρ D := by
    intro N
    induction N with
    | zero => intro k ρ _ h; omega
    | succ N ih =>
      intro k ρ hk hN h
      unfold sWhile
      rw [Ws_bnd]
      refine (hs k ρ hk h).mono (fun b ρ' q => ?_) fun _ _ z => z
      cases b with
      | false => exact q.2 rfl
      | true =>
        have q := q.1 rfl
        rw [if_pos rfl]
        unfold Ws at q ⊢
        dsimp only at q ⊢
        cases e : body ρ' with
        | nx ρ2 => rw [e] at q; obtain ⟨j, h1, h2⟩ := q; exact ih j ρ2 (by omega) (by omega) h2
        | ct ρ2 => rw [e] at q; obtain ⟨j, h1, h2⟩ := q; exact ih j ρ2 (by omega) (by omega) h2
        | bk ρ2 => rw [e] at q; exact q
        | rt r ρ2 => rw [e] at q; exact q
        | er e ρ2 => rw [e] at q; exact q
        | bad => rw [e] at q; exact q
  exact key N k0 ρ (Nat.le_refl _) hk h0
end
end Raw
/-- a shell: so that no look at a goal's shape runs the mirror -/
structure Bx (P : Prop) : Prop where
  out : P
theorem Bx_eq {P : Prop} : Bx P = P := propext ⟨fun h => h.1, fun h => ⟨h⟩⟩
def Wp {α : Type} (m : M α) (ρ : List L) (Q : α → List L → Prop) (E : Er → List L → Prop) : Prop := Bx (Raw.Wp m ρ Q E)
def Wo (o : Out R) (Q : R → List L → Prop) (E : Er → List L → Prop) : Prop := Bx (Raw.Wo o Q E)
def Ws (m : St') (ρ : List L) (D : En) : Prop := Bx (Raw.Ws m ρ D)
theorem Wp_raw : @Wp = @Raw.Wp := by funext α m ρ Q E; exact Bx_eq
theorem Wo_raw : @Wo = @Raw.Wo := by funext o Q E; exact Bx_eq
theorem Ws_raw : @Ws = @Raw.Ws := by funext m ρ D; exact Bx_eq
section
variable {α β : Type} {ρ : List L} {Q : α → List L → Prop} {E : Er → List L → Prop} {D : En}
theorem Wp_ret {a : α} : Wp (M.ret a) ρ Q E = Q a ρ := by
  simp only [Wp_raw] at *
  exact Raw.Wp_ret
theorem Wp_no : Wp (M.no : M α) ρ Q E = False := by
  simp only [Wp_raw] at *
  exact Raw.Wp_no
theorem Wp_bnd {m : M β} {f : β → M α} : Wp (M.bnd m f) ρ Q E = Wp m ρ (fun a ρ' => Wp (f a) ρ' Q E) E := by
  simp only [Wp_raw] at *
  exact Raw.Wp_bnd
theorem Wp_ite {c : Prop} [Decidable c] {m n : M α} : Wp (if c then m else n) ρ Q E = ((c → Wp m ρ Q E) ∧ (¬ c → Wp n ρ Q E)) := by
  simp only [Wp_raw] at *
  exact Raw.Wp_ite
variable {Q : R → List L → Prop} {QB : Bool → List L → Prop}
theorem Wp_m2 {g : R → R → M R} {m n : M R} : Wp (m2 g m n) ρ Q E = Wp m ρ (fun a ρ' => Wp (M.stay a (M.bnd n fun b => g a b)) ρ' Q E) E := by
  simp only [Wp_raw] at *
  exact Raw.Wp_m2
theorem Wp_var {i : Nat} : Wp (mVar i) ρ Q E = (match ρ[i]? with
  | some (.val d) => Q (.val d) ρ
  | some (.own o) => Q (.val o.frz) (ρ.set i (.val o.frz))
  | _ => False) := by
  simp only [Wp_raw] at *
  exact Raw.Wp_var
theorem Wp_peek {i : Nat} : Wp (mPeek i) ρ Q E = (match ρ[i]? with
  | some (.val d) => Q (.val d) ρ
  | some (.own o) => Q (.bor i) ρ
  | _ => False) := by
  simp only [Wp_raw] at *
  exact Raw.Wp_peek
theorem Wp_move {i : Nat} : Wp (mMove i) ρ Q E = (match ρ[i]? with
  | some (.val d) => Q (.val d) ρ
  | some (.own o) => Q (.own o) (ρ.set i .non)
  | _ => False) := by
  simp only [Wp_raw] at *
  exact Raw.Wp_move
theorem Wp_frz {m : M R} : Wp (mFrz m) ρ Q E = Wp m ρ (fun r ρ' => Q r.frz ρ') E := by
  simp only [Wp_raw] at *
  exact Raw.Wp_frz
theorem Wp_gI {C : Int → Int → Bool} {f : Int → Int → Dt} {i j : Int} : Wp (gI C f (.val (.int i)) (.val (.int j))) ρ Q E = (C i j = true ∧ Q (.val (f i j)) ρ) := by
  simp only [Wp_raw] at *
  exact Raw.Wp_gI
theorem Wp_gD {f : Dt → Dt → Option Dt} {a b : R} : Wp (gD f a b) ρ Q E = (match a.dt ρ with
  | some d => match b.dt ρ with
    | some e => match f d e with
      | some z => Q (.val z) ρ
      | none => False
    | none => False
  | none => False) := by
  simp only [Wp_raw] at *
  exact Raw.Wp_gD
theorem Wp_g1 {f : Dt → Option Dt} {a : R} : Wp (g1 f [a]) ρ Q E = (match a.dt ρ with
  | some d => match f d with
    | some z => Q (.val z) ρ
    | none => False
  | none => False) := by
  simp only [Wp_raw] at *
  exact Raw.Wp_g1
theorem Wp_g2I {f : Int → Int → Dt} {i j : Int} : Wp (g2I f [.val (.int i), .val (.int j)]) ρ Q E = Q (.val (f i j)) ρ := by
  simp only [Wp_raw] at *
  exact Raw.Wp_g2I
theorem Wp_isa {Ts : List String} {m : M R} : Wp (mIsa Ts m) ρ Q E = Wp m ρ (fun r ρ' => Wp (g1 (dIsa Ts) [r]) ρ' Q E) E := by
  simp only [Wp_raw] at *
  exact Raw.Wp_isa
theorem Wp_bool {m : M R} : Wp (mBool m) ρ QB E = Wp m ρ (fun r ρ' => match r with
  | .val (.bl b) => QB b ρ'
  | _ => False) E := by
  simp only [Wp_raw] at *
  exact Raw.Wp_bool
theorem Wp_tru {m : M R} : Wp (mTru m) ρ QB E = Wp m ρ (fun r ρ' => match r.dt ρ' with
  | some d => match d.tru with
    | some b => QB b ρ'
    | none => False
  | none => False) E := by
  simp only [Wp_raw] at *
  exact Raw.Wp_tru
theorem Wp_not {m : M Bool} : Wp (mNot m) ρ QB E = Wp m ρ (fun b ρ' => QB (!b) ρ') E := by
  simp only [Wp_raw] at *
  exact Raw.Wp_not
theorem Wp_and {m n : M Bool} : Wp (mAnd m n) ρ QB E = Wp m ρ (fun b ρ' => (b = true → Wp n ρ' QB E) ∧ (b = false → QB false ρ')) E := by
  simp only [Wp_raw] at *
  exact Raw.Wp_and
theorem Wp_or {m n : M Bool} : Wp (mOr m n) ρ QB E = Wp m ρ (fun b ρ' => (b = true → QB true ρ') ∧ (b = false → Wp n ρ' QB E)) E := by
  simp only [Wp_raw] at *
  exact Raw.Wp_or
theorem Wp_ofB {m : M Bool} : Wp (mOfB m) ρ Q E = Wp m ρ (fun b ρ' => Q (.val (.bl b)) ρ') E := by
  simp only [Wp_raw] at *
  exact Raw.Wp_ofB
theorem Wp_if {c : M Bool} {m n : M R} : Wp (mIf c m n) ρ Q E = Wp c ρ (fun b ρ' => (b = true → Wp m ρ' Q E) ∧ (b = false → Wp n ρ' Q E)) E := by
  simp only [Wp_raw] at *
  exact Raw.Wp_if
theorem Wp_andV {m n : M R} : Wp (mAndV m n) ρ Q E = Wp (mBool m) ρ (fun b ρ' => (b = true → Wp n ρ' Q E) ∧ (b = false → Q (.val (.bl false)) ρ')) E := by
  simp only [Wp_raw] at *
  exact Raw.Wp_andV
theorem Wp_orV {m n : M R} : Wp (mOrV m n) ρ Q E = Wp (mBool m) ρ (fun b ρ' => (b = true → Q (.val (.bl true)) ρ') ∧ (b = false → Wp n ρ' Q E)) E := by
  simp only [Wp_raw] at *
  exact Raw.Wp_orV
theorem Wp_un {f : Int → Int} {m : M R} : Wp (mUn f m) ρ Q E = Wp m ρ (fun r ρ' => match r with
  | .val (.int i) => Q (.val (.int (f i))) ρ'
  | _ => False) E := by
  simp only [Wp_raw] at *
  exact Raw.Wp_un
variable {QL : List R → List L → Prop}
theorem Wp_nil : Wp mNil ρ QL E = QL [] ρ := by
  simp only [Wp_raw] at *
  exact Raw.Wp_nil
theorem Wp_cons {m : M R} {ms : M (List R)} : Wp (mCons m ms) ρ QL E = Wp m ρ (fun r ρ' => Wp (M.stay r (M.bnd ms fun rs => M.ret (r :: rs))) ρ' QL E) E := by
  simp only [Wp_raw] at *
  exact Raw.Wp_cons
theorem Wp_disp {f : List Dt → R} {ms : M (List R)} : Wp (mDisp f ms) ρ Q E = Wp ms ρ (fun rs ρ' => match datas rs with
  | some ds => ds.length ≤ 16777216 ∧ Q (f ds) ρ'
  | none => False) E := by
  simp only [Wp_raw] at *
  exact Raw.Wp_disp
theorem Wp_tup {ms : M (List R)} : Wp (mTup ms) ρ Q E = Wp ms ρ (fun rs ρ' => match datas rs with
  | some ds => ds.length ≤ 16777216 ∧ Q (.val (.tup ds)) ρ'
  | none => False) E := by
  simp only [Wp_raw] at *
  exact Raw.Wp_tup
theorem Wp_lst {ms : M (List R)} : Wp (mLst ms) ρ Q E = Wp ms ρ (fun rs ρ' => match datas rs with
  | some ds => ds.length ≤ 16777216 ∧ Q (.own (.lst ds)) ρ'
  | none => False) E := by
  simp only [Wp_raw] at *
  exact Raw.Wp_lst
theorem Wp_call {n : Nat} {f : FM} {ms : M (List R)} : Wp (mCall n f ms) ρ Q E = Wp ms ρ (fun rs ρ' => rs.length = n ∧ match vals rs with
  | some ls => Wo (f ls) (fun r _ => Q r ρ') (fun e _ => E e ρ')
  | none => False) E := by
  simp only [Wp_raw, Wo_raw] at *
  exact Raw.Wp_call
theorem Wp_callO {n k : Nat} {f : FM} {ms : M (List R)} : Wp (mCallO n k f ms) ρ Q E = Wp ms ρ (fun rs ρ' => rs.length = n ∧ match rs[k]? with
  | some (.bor i) => match ρ'[i]? with
    | some (.own o) => match vals (rs.set k (.val .non)) with
      | some ls => Wo (f (ls.set k (.own o))) (fun r ls' => match ls'[k]? with
        | some l => Q r (ρ'.set i l.back)
        | none => False) (fun e ls' => match ls'[k]? with
        | some l => E e (ρ'.set i l.back)
        | none => False)
      | none => False
    | _ => False
  | _ => False) E := by
  simp only [Wp_raw, Wo_raw] at *
  exact Raw.Wp_callO
theorem Wp_set {i : Nat} {f : List Dt → Option (List Dt × Dt)} : Wp (setO i f) ρ Q E = (match ρ[i]? with
  | some (.own (.lst ds)) => match f ds with
    | some (es, z) => Q (.val z) (ρ.set i (.own (.lst es)))
    | none => False
  | _ => False) := by
  simp only [Wp_raw] at *
  exact Raw.Wp_set
theorem Wp_at {i : Nat} {m : M R} : Wp (atO i m) ρ Q E = (match ρ[i]? with
  | some (.own (.lst _)) => Wp m ρ Q E
  | _ => False) := by
  simp only [Wp_raw] at *
  exact Raw.Wp_at
theorem Wp_app {i : Nat} {m : M R} : Wp (mAppend i m) ρ Q E = (match ρ[i]? with
  | some (.own (.lst _)) => Wp m ρ (fun r ρ' => match r with
    | .val d => match ρ'[i]? with
      | some (.own (.lst ds)) => ds.length < 16777216 ∧ Q (.val .non) (ρ'.set i (.own (.lst (ds ++ [d]))))
      | _ => False
    | _ => False) E
  | _ => False) := by
  simp only [Wp_raw] at *
  exact Raw.Wp_app
theorem Wp_pop {i : Nat} : Wp (mPop i) ρ Q E = (match ρ[i]? with
  | some (.own (.lst ds)) => match ds[ds.length - 1]? with
    | some z => Q (.val z) (ρ.set i (.own (.lst ds.dropLast)))
    | none => False
  | _ => False) := by
  simp only [Wp_raw] at *
  exact Raw.Wp_pop
theorem Wp_rev {i : Nat} : Wp (mReverse i) ρ Q E = (match ρ[i]? with
  | some (.own (.lst ds)) => Q (.val .non) (ρ.set i (.own (.lst ds.reverse)))
  | _ => False) := by
  simp only [Wp_raw] at *
  exact Raw.Wp_rev
variable {QI : List Dt → List L → Prop}
theorem Wp_range1 {ms : M (List R)} : Wp (mRange1 ms) ρ QI E = Wp ms ρ (fun rs ρ' => match rs with
  | [.val (.int j)] => small j = true ∧ QI (rangeD 0 j) ρ'
  | _ => False) E := by
  simp only [Wp_raw] at *
  exact Raw.Wp_range1
theorem Wp_range2 {ms : M (List R)} : Wp (mRange2 ms) ρ QI E = Wp ms ρ (fun rs ρ' => match rs with
  | [.val (.int i), .val (.int j)] => (small i = true ∧ small j = true) ∧ QI (rangeD i j) ρ'
  | _ => False) E := by
  simp only [Wp_raw] at *
  exact Raw.Wp_range2
theorem Wp_err {i : Nat} {cn f : Str} : Wp (mErr i cn f) ρ Q E = (match ρ[i]? with
  | some (.exc e) => e.cls = cn ∧ match e.fs.lookup f with
    | some d => Q (.val d) ρ
    | none => False
  | _ => False) := by
  simp only [Wp_raw] at *
  exact Raw.Wp_err
theorem Wp_erris {i : Nat} {tbl : Tbl} : Wp (mErrIs i tbl) ρ Q E = (match ρ[i]? with
  | some (.exc e) => match tbl e.cls with
    | some b => Q (.val (.bl b)) ρ
    | none => False
  | _ => False) := by
  simp only [Wp_raw] at *
  exact Raw.Wp_erris
theorem Ws_nx : Ws sNx ρ D = D.nx ρ := by
  simp only [Ws_raw] at *
  exact Raw.Ws_nx
theorem Ws_bk : Ws sBk ρ D = D.bk ρ := by
  simp only [Ws_raw] at *
  exact Raw.Ws_bk
theorem Ws_ct : Ws sCt ρ D = D.ct ρ := by
  simp only [Ws_raw] at *
  exact Raw.Ws_ct
theorem Ws_retN : Ws sRetN ρ D = D.rt (.val .non) ρ := by
  simp only [Ws_raw] at *
  exact Raw.Ws_retN
theorem Ws_bnd {m : M β} {f : β → St'} : Ws (sBnd m f) ρ D = Wp m ρ (fun a ρ' => Ws (f a) ρ' D) D.er := by
  simp only [Wp_raw, Ws_raw] at *
  exact Raw.Ws_bnd
theorem Ws_expr {m : M R} : Ws (sExpr m) ρ D = Wp m ρ (fun _ ρ' => D.nx ρ') D.er := by
  simp only [Wp_raw, Ws_raw] at *
  exact Raw.Ws_expr
theorem Ws_ret {m : M R} : Ws (sRet m) ρ D = Wp m ρ (fun r ρ' => D.rt r ρ') D.er := by
  simp only [Wp_raw, Ws_raw] at *
  exact Raw.Ws_ret
theorem Ws_if {c : M Bool} {m n : St'} : Ws (sIf c m n) ρ D = Wp c ρ (fun b ρ' => (b = true → Ws m ρ' D) ∧ (b = false → Ws n ρ' D)) D.er := by
  simp only [Wp_raw, Ws_raw] at *
  exact Raw.Ws_if
theorem Ws_set {i : Nat} {m : M R} : Ws (sSet i m) ρ D = Wp m ρ (fun r ρ' => match r with
  | .val d => D.nx (ρ'.set i (.val d))
  | .own o => D.nx (ρ'.set i (.own o))
  | .bor _ => False) D.er := by
  simp only [Wp_raw, Ws_raw] at *
  exact Raw.Ws_set
theorem Ws_par {i j : Nat} {ms : M (List R)} : Ws (sPar i j ms) ρ D = Wp ms ρ (fun rs ρ' => match rs with
  | [.val d, .val e] => D.nx ((ρ'.set i (.val d)).set j (.val e))
  | _ => False) D.er := by
  simp only [Wp_raw, Ws_raw] at *
  exact Raw.Ws_par
theorem Ws_unp {g : Gt} {m : M R} : Ws (sUnp g m) ρ D = Wp m ρ (fun r ρ' => match r with
  | .val d => match g d ρ' with
    | some ρ2 => D.nx ρ2
    | none => False
  | _ => False) D.er := by
  simp only [Wp_raw, Ws_raw] at *
  exact Raw.Ws_unp
theorem Ws_raise {cn : Str} {fs : List Str} {ms : M (List R)} : Ws (sRaise cn fs ms) ρ D = Wp ms ρ (fun rs ρ' => match datas rs with
  | some ds => ds.length = fs.length ∧ D.er ⟨cn, fs.zip ds⟩ ρ'
  | none => False) D.er := by
  simp only [Wp_raw, Ws_raw] at *
  exact Raw.Ws_raise
theorem Ws_raise0 {cn : Str} : Ws (sRaise0 cn) ρ D = D.er ⟨cn, []⟩ ρ := by
  simp only [Ws_raw] at *
  exact Raw.Ws_raise0
theorem Ws_try {m ms : St'} {tbl : Tbl} {i : Nat} : Ws (sTry m tbl i ms) ρ D = Ws m ρ { D with er := fun e ρ' => match tbl e.cls with
  | some true => Ws ms (ρ'.set i (.exc e)) (En.suite i D)
  | some false => D.er e ρ'
  | none => False } := by
  simp only [Ws_raw] at *
  exact Raw.Ws_try
theorem ws_seq {m n : St'} (h : ∀ K : List L → Prop, (∀ ρ', Ws n ρ' D → K ρ') → Ws m ρ { D with nx := K }) : Ws (sSeq m n) ρ D := by
  simp only [Ws_raw] at *
  exact Raw.ws_seq h
theorem ws_try {m ms : St'} {tbl : Tbl} {i : Nat} (h : ∀ X : Er → List L → Prop, (∀ e ρ', (match tbl e.cls with
  | some true => Ws ms (ρ'.set i (.exc e)) (En.suite i D)
  | some false => D.er e ρ'
  | none => False) → X e ρ') → Ws m ρ { D with er := X }) : Ws (sTry m tbl i ms) ρ D := by
  rw [Ws_try]; exact h _ fun _ _ z => z
theorem Ws.mono {m : St'} {D' : En} (h : Ws m ρ D) (k1 : ∀ ρ, D.nx ρ → D'.nx ρ) (k2 : ∀ r ρ, D.rt r ρ → D'.rt r ρ) (k3 : ∀ ρ, D.bk ρ → D'.bk ρ) (k4 : ∀ ρ, D.ct ρ → D'.ct ρ) (k5 : ∀ e ρ, D.er e ρ → D'.er e ρ) : Ws m ρ D' := by
  simp only [Ws_raw] at *
  exact Raw.Ws.mono h k1 k2 k3 k4 k5
theorem Wp.mono {m : M α} {Q Q' : α → List L → Prop} {E' : Er → List L → Prop} (h : Wp m ρ Q E) (k : ∀ a ρ, Q a ρ → Q' a ρ) (k5 : ∀ e ρ, E e ρ → E' e ρ) : Wp m ρ Q' E' := by
  simp only [Wp_raw] at *
  exact Raw.Wp.mono h k k5
theorem Wo.mono {o : Out R} {Q Q' : R → List L → Prop} {E' : Er → List L → Prop} (h : Wo o Q E) (k : ∀ a ρ, Q a ρ → Q' a ρ) (k5 : ∀ e ρ, E e ρ → E' e ρ) : Wo o Q' E' := by
  simp only [Wo_raw] at *
  exact Raw.Wo.mono h k k5
theorem wo_fn {nN n : Nat} {b : St'} {ls : List L} (h : Ws b (ls ++ List.replicate (nN - n) .non) (enF n Q E)) : Wo (mFn nN n b ls) Q E := by
  simp only [Wo_raw, Ws_raw] at *
  exact Raw.wo_fn h
theorem sForL_ok {g : Gt} {body : St'} (I : List Dt → List L → Prop) (hs : ∀ d ds ρ, I (d :: ds) ρ → match g d ρ with
    | some ρ1 => Ws body ρ1 ⟨I ds, D.rt, D.nx, I ds, D.er⟩
    | none => False) (he : ∀ ρ, I [] ρ → D.nx ρ) : ∀ {ds : List Dt} {ρ : List L}, I ds ρ → Ws (sForL g body ds) ρ D := by
  simp only [Ws_raw] at *
  exact Raw.sForL_ok I hs he
theorem ws_for {mi : M (List Dt)} {g : Gt} {body : St'} (h : Wp mi ρ (fun items ρ' => Ws (sForL g body items) ρ' D) D.er) : Ws (sFor mi g body) ρ D := by
  simp only [Wp_raw, Ws_raw] at *
  exact Raw.ws_for h
theorem ws_forR {g : Gt} {body : St'} {lo n : Int} (I : Int → List L → Prop) (h0 : I lo ρ) (hn : lo ≤ n) (hs : ∀ i ρ, lo ≤ i → i < n → I i ρ → match g (.int i) ρ with
    | some ρ1 => Ws body ρ1 ⟨I (i + 1), D.rt, D.nx, I (i + 1), D.er⟩
    | none => False) (he : ∀ ρ, I n ρ → D.nx ρ) : Ws (sForL g body (rangeD lo n)) ρ D := by
  simp only [Ws_raw] at *
  exact Raw.ws_forR I h0 hn hs he
theorem ws_while {c : M Bool} {body : St'} {N k0 : Nat} (I : Nat → List L → Prop) (h0 : I k0 ρ) (hk : k0 < N) (hs : ∀ k ρ, k ≤ k0 → I k ρ → Wp c ρ (fun b ρ' => (b = true → Ws body ρ' ⟨fun ρ2 => ∃ j, j < k ∧ I j ρ2, D.rt, D.nx, fun ρ2 => ∃ j, j < k ∧ I j ρ2, D.er⟩) ∧ (b = false → D.nx ρ')) D.er) : Ws (sWhile N c body) ρ D := by
  simp only [Wp_raw, Ws_raw] at *
  exact Raw.ws_while I h0 hk hs
end
theorem wo_ok {o : Out R} {r : R} (h : Wo o (fun x _ => x = r) fun _ _ => False) : ∃ ls, o = .ok r ls := by
  unfold Wo at h
  have h := h.out
  unfold Raw.Wo at h
  cases o with
  | ok a ρ' => exact ⟨ρ', by rw [show a = r from h]⟩
  | er e ρ' => exact h.elim
  | bad => exact h.elim
/-! facts of data -/
theorem dEq_ii {i j : Int} : dEq (.int i) (.int j) = some (.bl (decide (i = j))) := rfl
theorem dNe_ii {i j : Int} : dNe (.int i) (.int j) = some (.bl (!decide (i = j))) := rfl
theorem mulOk_iff {i j : Int} : mulOk i j = true ↔ (-(2 ^ 64) < i ∧ i < 2 ^ 64) ∨ (-(2 ^ 64) < j ∧ j < 2 ^ 64) := by unfold mulOk; simp
theorem divOk_iff {i j : Int} : divOk i j = true ↔ j ≠ 0 ∧ j.natAbs < 1073741824 := by unfold divOk; simp
theorem modOk_iff {i j : Int} : modOk i j = true ↔ j ≠ 0 := by unfold modOk; simp
theorem powOk_iff {i j : Int} : powOk i j = true ↔ (0 ≤ j ∧ j ≤ 1000000) ∧ i.natAbs < 2 ^ 64 := by unfold powOk; simp
theorem dLen_lst {l : List Dt} : dLen (.lst l) = some (.int l.length) := rfl
theorem dLen_wls {l : List Dt} : dLen (.wls l) = some (.int l.length) := rfl
theorem dLen_tup {l : List Dt} : dLen (.tup l) = some (.int l.length) := rfl
theorem ix_lst {l : List Dt} {i : Int} : dIx (.lst l) (.int i) = atI l i := rfl
theorem ix_wls {l : List Dt} {i : Int} : dIx (.wls l) (.int i) = atI l i := rfl
theorem ix_tup' {l : List Dt} {i : Int} : dIx (.tup l) (.int i) = atI l i := rfl
theorem atI_nat {α : Type} {l : List α} {i : Int} (h0 : 0 ≤ i) : L2.atI l i = l[i.toNat]? := by
  unfold L2.atI L2.ixN
  rw [if_pos h0]
  by_cases h : i < l.length
  · rw [if_pos h]; rfl
  · rw [if_neg h, List.getElem?_eq_none (by omega)]; rfl
theorem isa_int_non : dIsa ["int"] (.non) = some (.bl false) := rfl
theorem isa_int_bl {b : Bool} : dIsa ["int"] (.bl b) = some (.bl true) := rfl
theorem isa_int_int {i : Int} : dIsa ["int"] (.int i) = some (.bl true) := rfl
theorem isa_int_str {s : Str} : dIsa ["int"] (.str s) = some (.bl false) := rfl
theorem isa_int_tup {l : List Dt} : dIsa ["int"] (.tup l) = some (.bl false) := rfl
theorem isa_int_lst {l : List Dt} : dIsa ["int"] (.lst l) = some (.bl false) := rfl
theorem isa_int_wls {l : List Dt} : dIsa ["int"] (.wls l) = some (.bl false) := rfl
theorem isa_int_dic {l} : dIsa ["int"] (.dic l) = some (.bl false) := rfl
theorem isa_bool_non : dIsa ["bool"] (.non) = some (.bl false) := rfl
theorem isa_bool_bl {b : Bool} : dIsa ["bool"] (.bl b) = some (.bl true) := rfl
theorem isa_bool_int {i : Int} : dIsa ["bool"] (.int i) = some (.bl false) := rfl
theorem isa_bool_str {s : Str} : dIsa ["bool"] (.str s) = some (.bl false) := rfl
theorem isa_bool_tup {l : List Dt} : dIsa ["bool"] (.tup l) = some (.bl false) := rfl
theorem isa_bool_lst {l : List Dt} : dIsa ["bool"] (.lst l) = some (.bl false) := rfl
theorem isa_bool_wls {l : List Dt} : dIsa ["bool"] (.wls l) = some (.bl false) := rfl
theorem isa_bool_dic {l} : dIsa ["bool"] (.dic l) = some (.bl false) := rfl
theorem isa_str_non : dIsa ["str"] (.non) = some (.bl false) := rfl
theorem isa_str_bl {b : Bool} : dIsa ["str"] (.bl b) = some (.bl false) := rfl
theorem isa_str_int {i : Int} : dIsa ["str"] (.int i) = some (.bl false) := rfl
theorem isa_str_str {s : Str} : dIsa ["str"] (.str s) = some (.bl true) := rfl
theorem isa_str_tup {l : List Dt} : dIsa ["str"] (.tup l) = some (.bl false) := rfl
theorem isa_str_lst {l : List Dt} : dIsa ["str"] (.lst l) = some (.bl false) := rfl
theorem isa_str_wls {l : List Dt} : dIsa ["str"] (.wls l) = some (.bl false) := rfl
theorem isa_str_dic {l} : dIsa ["str"] (.dic l) = some (.bl false) := rfl
theorem isa_list_non : dIsa ["list"] (.non) = some (.bl false) := rfl
theorem isa_list_bl {b : Bool} : dIsa ["list"] (.bl b) = some (.bl false) := rfl
theorem isa_list_int {i : Int} : dIsa ["list"] (.int i) = some (.bl false) := rfl
theorem isa_list_str {s : Str} : dIsa ["list"] (.str s) = some (.bl false) := rfl
theorem isa_list_tup {l : List Dt} : dIsa ["list"] (.tup l) = some (.bl false) := rfl
theorem isa_list_lst {l : List Dt} : dIsa ["list"] (.lst l) = some (.bl true) := rfl
theorem isa_list_wls {l : List Dt} : dIsa ["list"] (.wls l) = some (.bl true) := rfl
theorem isa_list_dic {l} : dIsa ["list"] (.dic l) = some (.bl false) := rfl
theorem isa_tuple_non : dIsa ["tuple"] (.non) = some (.bl false) := rfl
theorem isa_tuple_bl {b : Bool} : dIsa ["tuple"] (.bl b) = some (.bl false) := rfl
theorem isa_tuple_int {i : Int} : dIsa ["tuple"] (.int i) = some (.bl false) := rfl
theorem isa_tuple_str {s : Str} : dIsa ["tuple"] (.str s) = some (.bl false) := rfl
theorem isa_tuple_tup {l : List Dt} : dIsa ["tuple"] (.tup l) = some (.bl true) := rfl
theorem isa_tuple_lst {l : List Dt} : dIsa ["tuple"] (.lst l) = some (.bl false) := rfl
theorem isa_tuple_wls {l : List Dt} : dIsa ["tuple"] (.wls l) = some (.bl false) := rfl
theorem isa_tuple_dic {l} : dIsa ["tuple"] (.dic l) = some (.bl false) := rfl
theorem isa_list_tuple_non : dIsa ["list", "tuple"] (.non) = some (.bl false) := rfl
theorem isa_list_tuple_bl {b : Bool} : dIsa ["list", "tuple"] (.bl b) = some (.bl false) := rfl
theorem isa_list_tuple_int {i : Int} : dIsa ["list", "tuple"] (.int i) = some (.bl false) := rfl
theorem isa_list_tuple_str {s : Str} : dIsa ["list", "tuple"] (.str s) = some (.bl false) := rfl
theorem isa_list_tuple_tup {l : List Dt} : dIsa ["list", "tuple"] (.tup l) = some (.bl true) := rfl
theorem isa_list_tuple_lst {l : List Dt} : dIsa ["list", "tuple"] (.lst l) = some (.bl true) := rfl
theorem isa_list_tuple_wls {l : List Dt} : dIsa ["list", "tuple"] (.wls l) = some (.bl true) := rfl
theorem isa_list_tuple_dic {l} : dIsa ["list", "tuple"] (.dic l) = some (.bl false) := rfl
theorem isa_int_str_non : dIsa ["int", "str"] (.non) = some (.bl false) := rfl
theorem isa_int_str_bl {b : Bool} : dIsa ["int", "str"] (.bl b) = some (.bl true) := rfl
theorem isa_int_str_int {i : Int} : dIsa ["int", "str"] (.int i) = some (.bl true) := rfl
theorem isa_int_str_str {s : Str} : dIsa ["int", "str"] (.str s) = some (.bl true) := rfl
theorem isa_int_str_tup {l : List Dt} : dIsa ["int", "str"] (.tup l) = some (.bl false) := rfl
theorem isa_int_str_lst {l : List Dt} : dIsa ["int", "str"] (.lst l) = some (.bl false) := rfl
theorem isa_int_str_wls {l : List Dt} : dIsa ["int", "str"] (.wls l) = some (.bl false) := rfl
theorem isa_int_str_dic {l} : dIsa ["int", "str"] (.dic l) = some (.bl false) := rfl
theorem isa_str_int_non : dIsa ["str", "int"] (.non) = some (.bl false) := rfl
theorem isa_str_int_bl {b : Bool} : dIsa ["str", "int"] (.bl b) = some (.bl true) := rfl
theorem isa_str_int_int {i : Int} : dIsa ["str", "int"] (.int i) = some (.bl true) := rfl
theorem isa_str_int_str {s : Str} : dIsa ["str", "int"] (.str s) = some (.bl true) := rfl
theorem isa_str_int_tup {l : List Dt} : dIsa ["str", "int"] (.tup l) = some (.bl false) := rfl
theorem isa_str_int_lst {l : List Dt} : dIsa ["str", "int"] (.lst l) = some (.bl false) := rfl
theorem isa_str_int_wls {l : List Dt} : dIsa ["str", "int"] (.wls l) = some (.bl false) := rfl
theorem isa_str_int_dic {l} : dIsa ["str", "int"] (.dic l) = some (.bl false) := rfl
theorem isa_tuple_list_non : dIsa ["tuple", "list"] (.non) = some (.bl false) := rfl
theorem isa_tuple_list_bl {b : Bool} : dIsa ["tuple", "list"] (.bl b) = some (.bl false) := rfl
theorem isa_tuple_list_int {i : Int} : dIsa ["tuple", "list"] (.int i) = some (.bl false) := rfl
theorem isa_tuple_list_str {s : Str} : dIsa ["tuple", "list"] (.str s) = some (.bl false) := rfl
theorem isa_tuple_list_tup {l : List Dt} : dIsa ["tuple", "list"] (.tup l) = some (.bl true) := rfl
theorem isa_tuple_list_lst {l : List Dt} : dIsa ["tuple", "list"] (.lst l) = some (.bl true) := rfl
theorem isa_tuple_list_wls {l : List Dt} : dIsa ["tuple", "list"] (.wls l) = some (.bl true) := rfl
theorem isa_tuple_list_dic {l} : dIsa ["tuple", "list"] (.dic l) = some (.bl false) := rfl
theorem dIsN_bl {b : Bool}: dIsN (.bl b) .non = some (.bl false) := rfl
theorem dNotN_bl {b : Bool}: dNotN (.bl b) .non = some (.bl true) := rfl
theorem dIsN_int {i : Int}: dIsN (.int i) .non = some (.bl false) := rfl
theorem dNotN_int {i : Int}: dNotN (.int i) .non = some (.bl true) := rfl
theorem dIsN_str {s : Str}: dIsN (.str s) .non = some (.bl false) := rfl
theorem dNotN_str {s : Str}: dNotN (.str s) .non = some (.bl true) := rfl
theorem dIsN_tup {l : List Dt}: dIsN (.tup l) .non = some (.bl false) := rfl
theorem dNotN_tup {l : List Dt}: dNotN (.tup l) .non = some (.bl true) := rfl
theorem dIsN_lst {l : List Dt}: dIsN (.lst l) .non = some (.bl false) := rfl
theorem dNotN_lst {l : List Dt}: dNotN (.lst l) .non = some (.bl true) := rfl
theorem dIsN_wls {l : List Dt}: dIsN (.wls l) .non = some (.bl false) := rfl
theorem dNotN_wls {l : List Dt}: dNotN (.wls l) .non = some (.bl true) := rfl
theorem dIsN_dic {l}: dIsN (.dic l) .non = some (.bl false) := rfl
theorem dNotN_dic {l}: dNotN (.dic l) .non = some (.bl true) := rfl
theorem dIsN_non : dIsN .non .non = some (.bl true) := rfl
theorem dNotN_non : dNotN .non .non = some (.bl false) := rfl
theorem tru_bl {b : Bool} : Dt.tru (.bl b) = some b := rfl
theorem tru_non : Dt.tru .non = some false := rfl
theorem tru_int {i : Int} : Dt.tru (.int i) = some (i != 0) := rfl
theorem tru_lst {l : List Dt} : Dt.tru (.lst l) = some (!l.isEmpty) := rfl
theorem tru_wls {l : List Dt} : Dt.tru (.wls l) = some (!l.isEmpty) := rfl
theorem tru_tup {l : List Dt} : Dt.tru (.tup l) = some (!l.isEmpty) := rfl
theorem int_int {i : Int} : dInt (.int i) = some (.int i) := rfl
theorem back_val' {d : Dt} : (L.val d).back = .val d := rfl
theorem back_own' {o : Ob} : (L.own o).back = .own o := rfl
theorem back_non : L.non.back = .non := rfl
theorem fdiv_pos {a b : Int} (h : 0 < b) : a.fdiv b = a / b := Int.fdiv_eq_ediv_of_nonneg a (Int.le_of_lt h)
theorem fmod_pos {a b : Int} (h : 0 < b) : a.fmod b = a % b := Int.fmod_eq_emod_of_nonneg a (Int.le_of_lt h)
end FL
namespace PySem
namespace X_name
open PySem.W PySem.Calls PySem.HandSPX PySem.EXX
open PyProof.Rows hiding St
def iA (p1 p2 : Pos) : Arguments := { posonlyargs := [], args := [{ arg := "self", annotation := none, pos := p1 }, { arg := "name", annotation := none, pos := p2 }], vararg := none, kwonlyargs := [], kw_defaults := [], kwarg := none, defaults := [] }
def iB (q1 q2 q3 q4 : Pos) : List Stmt := [.Assign [.Attribute (.Name "self" q1) "name" q2] (.Name "name" q3) q4]
def iS : Scope := { kind := .function, names := [(PySem.Str.ofString "self", .local), (PySem.Str.ofString "name", .local)], isGenerator := false, isCoroutine := false, more := [] }
/-- what the written part says of the class at C and of its __init__ at fI -/
structure Txt (K : Frag) (mg : Str → Option Value) (cn qn : Str) (C fI : Addr) : Prop where
  gC : mg cn = some (.ref C)
  cls : ∃ nm q N bs bm sn sub ab col dd k0 k1 k2 k3 k5, K.lookup C = some (excClassObj nm q C N bs bm true sn sub ab col dd k0 k1 k2 k3 k5 "Exception.__new__") ∧ refsX bm = true
  sa : findIn K (.ref C) "__setattr__" = some (some (.builtin "object.__setattr__"))
  no1 : findIn K (.ref C) "name" = some none
  iC : findIn K (.ref C) "__init__" = some (some (.ref fI))
  tI : typeIn K (.ref fI) = some (.type "function")
  kC : keepIn K (.ref C) = true
  exC : subIn K (.ref C) (.type "BaseException") = some true
  tyC : typeIn K (.ref C) = some (.type "type")
  fn : ∃ (oc : Value) (od : Option Addr) (doc pm : Value) (an : Option Addr) (cdv ct : Value) (osl : Array (Option Value)) (p1 p2 q1 q2 q3 q4 : Pos),
    K.lookup fI = some ⟨oc, od, .func (fnOf "__init__" qn (iA p1 p2) (iB q1 q2 q3 q4) iS .none .none doc pm an cdv ct), osl⟩ ∧ codeIn K cdv qn = true
theorem few (vs : List Value) (h : vs.length ≤ 2) : vs.length ≤ sizeLine := by
  rw [sizeLine_eq]; omega
theorem ldN {M : Model} {s : Shared} {name : Str} {scope : Scope} {L a : Addr} {cd : Value} {m : Str → Option Value} {x : Str} {pos : Pos} {v : Value} {Q : Value → Shared → Prop} {A : Around} {E : Value → Shared → Prop} (hn : s.heap.Ns L m) (hv : m x = some v) (h : Q v s)
    (hk : scope.kind = .function := by rfl) (hl : (envOfC name scope L a cd).kindOf x = some .local := by rfl) (hd : (x == ("__debug__" : Str)) = false := by decide) : wpAny M A (eval (.Name x pos) (envOfC name scope L a cd)) Q E s :=
  wpAny_Name (wpAny_loadName_local hk hl hn hv h) hd
structure Done (h h' : Heap) (x C dx t1 : Addr) (v1 : Value) : Prop where
  keep : ∀ b o, b ≠ x → h.get? b = some o → h'.get? b = some o
  obj : h'.get? x = some { cls := .ref C, dict := some dx, data := .fields #[.ref t1, .none, .none, .none, .bool false, .none] }
  dbig : h.objs.size ≤ dx
  dne : dx ≠ x
  ns : h'.Ns1 dx (fun y => if y = "name" then some v1 else none)
structure Made (h h' : Heap) (e C d : Addr) (v1 : Value) : Prop where
  keep : ∀ b o, h.get? b = some o → h'.get? b = some o
  new : h.objs.size ≤ e
  obj : ∃ oe vs, h'.get? e = some oe ∧ oe.cls = .ref C ∧ oe.dict = some d ∧ oe.data = .fields vs ∧ vs[1]? = some .none
  dbig : h.objs.size ≤ d
  dne : d ≠ e
  ns : h'.Ns1 d (fun y => if y = "name" then some v1 else none)
section
variable {prog : Program} {w : World} {A : Around} {E : Value → Shared → Prop} {R : Result → Shared → Prop} {s : Shared} {K : Frag} {mg : Str → Option Value} {cn qn : Str} {C fI : Addr}
theorem init (T : Txt K mg cn qn C fI) {x t0 : Addr} {v1 : Value} (X : K.In s.heap) (hlim : s.heap.NoLimit) (hx : s.heap.get? x = some (excO C t0)) (hxK : K.lookup x = none) (hroom : A.depth < recursionLimit)
    (hq : ∀ h' tk dx, Done s.heap h' x C dx t0 v1 → R (.ok (.ret .none)) { s with heap := h', toks := tk }) :
    codeAny (model prog w) A (.call (.ref fI) ⟨[.ref x, v1], []⟩) R s := by
  obtain ⟨oc, od, doc, pm, an, cdv, ct, osl, p1, p2, q1, q2, q3, q4, ho, hcd⟩ := T.fn
  obtain ⟨nm, q, N, bs, bm, sn, sub, ab, col, dd, k0, k1, k2, k3, k5, hC, hbm⟩ := T.cls
  have hcl : clsIn K C = some { name := nm, bases := bs, mro := .ref C :: bm, ns := N, qualname := q, hasDict := true, slotNames := sn, subclasses := sub, abstract := ab, collection := col, hasDel := false } := by unfold clsIn; rw [hC] <;> rfl
  refine Att.call_fn (binds := [("self", .ref x), ("name", v1)]) X hlim ho hcd hroom (BindsTo.of_eq (by first | rfl | with_unfolding_all rfl)) (by first | rfl | decide | with_unfolding_all rfl) (fun s₁ IC => ?_) rfl rfl rfl
  obtain ⟨h₁, tk₁, rfl⟩ := IC.toInCall.same
  have k : ∀ b o, s.heap.get? b = some o → h₁.get? b = some o := IC.toInCall.keep
  have hn := IC.toInCall.ns
  have nxL : s.heap.objs.size ≠ x := Nat.ne_of_gt (Heap.lt_size hx)
  have X1 : K.In h₁ := X.keeps k
  have hx1 := k _ _ hx
  have lt1 : s.heap.objs.size < h₁.objs.size := hn.lt
  show wpAny _ _ (execs _ _) _ _ _
  refine wpAny_execs_cons (plainObj_wpAny_Assign_Attribute ?_)
  refine ldN (v := v1) hn (by first | rfl | with_unfolding_all rfl | kernel_rfl) (ldN (v := .ref x) hn (by first | rfl | with_unfolding_all rfl | kernel_rfl) ?_)
  refine set_plain X1 (ox := excO C t0) (od := none) ⟨hx1, rfl, rfl, trivial⟩ T.sa ?_
  refine store_first X1 hx1 hcl (show refsX (.ref C :: bm) = true from hbm) rfl T.no1 (fun h3 tk3 dx k3 dn dne hx3 hn3 => ?_)
  show wpAny _ _ (execs _ _) _ _ _
  exact wpAny_execs_nil (hq h3 tk3 dx ⟨fun b o hb e => k3 b o hb (k b o e), hx3, Nat.le_of_lt (Nat.lt_of_lt_of_le lt1 dn), dne, hn3⟩)
theorem made (T : Txt K mg cn qn C fI) {v1 : Value} (X : K.In s.heap) (hlim : s.heap.NoLimit) (hroom : A.depth + 1 < recursionLimit) (hq : ∀ h' tk e d, Made s.heap h' e C d v1 → R (.ok (.ret (.ref e))) { s with heap := h', toks := tk }) :
    codeAny (model prog w) A (.call (.ref C) ⟨[v1], []⟩) R s := by
  obtain ⟨nm, q, N, bs, bm, sn, sub, ab, col, dd, k0, k1, k2, k3, k5, hC, hbm⟩ := T.cls
  obtain ⟨hp, g, dr, tk, os⟩ := s
  have k : ∀ b o, hp.get? b = some o → ((hp.push (kdv_tup [v1])).push (excO C hp.objs.size)).get? b = some o := fun b o e => Heap.get?_push_of_some _ (Heap.get?_push_of_some _ e)
  have hget : ((hp.push (kdv_tup [v1])).push (excO C hp.objs.size)).get? (hp.objs.size + 1) = some (excO C hp.objs.size) := by heap_get
  have hxK : K.lookup (hp.objs.size + 1) = none := by
    cases e : K.lookup (hp.objs.size + 1) with
    | none => rfl
    | some o =>
      have z1 : hp.objs.size + 1 < hp.objs.size := Heap.lt_size (X _ _ e)
      omega
  refine call_own F.excBase_Exception (fun n => refsX_has n bm hbm) (X _ _ hC) (looks_findIn X T.iC) (fun self => bind_fn X self T.tI) (few _ (by simp)) ?_
  refine init (s := ⟨(hp.push (kdv_tup [v1])).push (excO C hp.objs.size), g, dr, tk, os⟩) T (X.keeps k) (hlim.keeps k) hget hxK (show A.depth + 1 < recursionLimit from hroom) fun h' tk' dx ⟨k', hx, dn, dne, hns⟩ => ?_
  have old : ∀ b o, hp.get? b = some o → h'.get? b = some o := fun b o e => k' b o (Nat.ne_of_lt (Nat.lt_succ_of_lt (Heap.lt_size e))) (k b o e)
  have z : hp.objs.size + 1 + 1 ≤ dx := by
    first
      | exact dn
      | (have z2 := dn; rw [Heap.size_push, Heap.size_push] at z2; exact z2)
  exact ⟨rfl, hq h' tk' (hp.objs.size + 1) dx ⟨old, Nat.le_succ _, ⟨_, _, hx, rfl, rfl, rfl, rfl⟩, (by show hp.objs.size ≤ dx; omega), dne, hns⟩⟩
end
end X_name
end PySem
namespace FL
open PySem PySem.Spec L2
open PyProof.Rows hiding St
section
variable {X : Cx} {cn qn : Str} {C fI : Addr}
def X_name_fs : List Str := ["name"]
def X_name_xd (w1 : V) : List (Str × V) := [(("name" : Str), w1)]
theorem X_name_rel {w1 : V} {v1 : Value} (r1 : RelV w1 v1) (f : Str) : RelO (List.lookup f (X_name_xd w1)) (if f = "name" then some v1 else none) := by
  unfold X_name_xd
  by_cases h : f = "name"
  · subst h
    rw [if_pos rfl]
    have q0 : List.lookup ("name" : Str) [(("name" : Str), w1)] = some w1 := by simp [List.lookup]
    rw [q0]; exact r1
  · rw [if_neg h]
    have q : (f == ("name" : Str)) = false := by simpa using h
    simp only [List.lookup, q]
    trivial
theorem X_name_pmk {a1 : Expr} {ta : TA} {p pos : Pos} {k : Nat} (T : PySem.X_name.Txt X.K X.mg cn qn C fI) (hr : Room k X.A) (ha : PA X [a1] ta) (hg : Gl X cn) (hdb : (cn == ("__debug__" : Str)) = false)
    (he : starEach [a1] X.env = (false, eval a1 X.env) :: starEach [] X.env) (hpl : (backTo pos (starEach [] X.env)).any (·.1) = false) : PMk X (.Call (.Name cn p) [a1] [] pos) (mkT C X_name_fs ta) := by
  intro pins s σ H Q I h
  refine wpAny_Call_Name_kw (ld_glob I hg T.gC ?_ hdb)
  refine PySem.W.callWith_K (h₀ := X.base) I.ok.mod.kin T.kC (thn (ha.run pos pins s σ H _ I h) fun us s1 hh => ?_) he hpl
  obtain ⟨vs, H1, I1, rr, hl, q1⟩ := hh
  obtain ⟨w1, rfl⟩ : ∃ w1, vs = [w1] := match vs, hl with | [w1], _ => ⟨w1, rfl⟩
  refine ⟨I1.kIn, ?_⟩
  obtain ⟨v1, rfl, r1⟩ := rr.one
  show wpAny _ _ (call (.ref C) [v1]) _ _ _
  have hnl := I1.nolimit
  obtain ⟨hp, g, dr, tk, os⟩ := s1
  refine wpAny_call (PySem.X_name.made T I1.kIn hnl (by have := hr.dp; omega) fun h' tk' e d Md => ?_)
  show MkP X pins σ Q (.ref e) ⟨h', g, dr, tk', os⟩
  obtain ⟨oe, fv, hoe, hc, hd, hdat, h1⟩ := Md.obj
  have hns := Md.ns
  obtain ⟨G', g1, g2⟩ := restrict h' fun b => decide (b ≠ e)
  have gk : ∀ b, b ≠ e → G'.get? b = h'.get? b := fun b hb => g1 b (decide_eq_true hb)
  have ge : G'.get? e = none := g2 e (by simp)
  have old : ∀ b o, hp.get? b = some o → G'.get? b = some o := fun b o q => (gk b (Nat.ne_of_lt (Nat.lt_of_lt_of_le (Heap.lt_size q) Md.new))).trans (Md.keep b o q)
  have ob : ObjOk X.prog X.w (upd H1 d (.xd (X_name_xd w1))) G' d (.xd (X_name_xd w1)) := ⟨_, hns.at (fun o q => (gk d Md.dne).trans q), fun f => X_name_rel r1 f⟩
  have J : Inv X pins σ (upd H1 d (.xd (X_name_xd w1))) ⟨G', g, dr, tk', os⟩ := I1.laid (t' := tk') old Md.dbig ob
  refine ⟨e, oe, fv, ⟨G', g, dr, tk', os⟩, _, .ref C, some d, rfl, J, fun b o q => ?_, ge, hoe, ⟨hc, hd⟩, hdat, h1, ?_, rfl, I1.bare, raises_own T.exC T.tyC, q1 d (I1.hok.fresh Md.dbig)⟩
  · by_cases hb : b = e
    · have q' : G'.get? b = some o := q
      rw [hb, ge] at q'; cases q'
    · exact (gk b hb).symm.trans q
  · rw [upd_ne (Ne.symm Md.dne)]
    exact I1.hok.fresh Md.new
theorem X_name_raise {B : Bs} {W : WX} {a1 : Expr} {ms : M (List R)} {p pos pos2 : Pos} {k : Nat} (T : PySem.X_name.Txt X.K X.mg cn qn C fI) (hc : X.calm = true) (hr : Room k X.A) (tk : Takes X W) (ha : FA X B W [a1] ms) (hg : Gl X cn) (hdb : (cn == ("__debug__" : Str)) = false := by decide)
    (he : starEach [a1] X.env = (false, eval a1 X.env) :: starEach [] X.env := by rfl) (hpl : (backTo pos (starEach [] X.env)).any (·.1) = false := by rfl) : FS X B W (.Raise (some (.Call (.Name cn p) [a1] [] pos)) none pos2) (sRaise cn X_name_fs ms) :=
  let ⟨_, pa, ka⟩ := ha
  ⟨_, ps_raise hc tk (X_name_pmk T hr pa hg hdb he hpl), tkS_raise T.gC ka⟩
end
end FL
namespace K79
open PySem PySem.Spec L2 FL
open PyProof.Rows hiding St
def top (i : Nat) : Stmt := PySem.Challenge.pw_silentlinks_k79_views_clocks.main.body.getD i (.Pass ⟨0, 0, 0, 0⟩)
def ti_LinksError : Tbl := fun cn => ([("BadNumber", true)] : List (Str × Bool)).lookup cn
def tb_BadNumber : Tbl := fun cn => ([("BadNumber", true)] : List (Str × Bool)).lookup cn
abbrev s_is_number : Stmt := top 4
theorem sc_is_number : FnScope ["value"] ["value"] (defScope s_is_number) := ⟨rfl, rfl, rfl, by decide +kernel, rfl, by decide +kernel, by decide +kernel⟩
def b_is_number : St' := (sRet (mAndV (mIsa ["int"] (mPeek 0)) (mOfB (mNot (mBool (mIsa ["bool"] (mPeek 0)))))))
def m_is_number : FM := mFn 1 1 b_is_number
abbrev s_check_number : Stmt := top 5
theorem sc_check_number : FnScope ["value", "name", "least"] ["value", "name", "least"] (defScope s_check_number) := ⟨rfl, rfl, rfl, by decide +kernel, rfl, by decide +kernel, by decide +kernel⟩
def b_check_number : St' := (sSeq (sIf (mOr (mNot (mTru (mCall 1 m_is_number (mCons (mVar 0) mNil)))) (mAnd (mBool (m2 (gD dNotN) (mPeek 2) (M.ret (.val .non)))) (mBool (m2 gLt (mVar 0) (mVar 2)))))
 (sRaise "BadNumber" X_name_fs (mCons (mVar 1) mNil))
 sNx)
 (sRet (mMove 0)))
def m_check_number : FM := mFn 3 3 b_check_number
abbrev s_view_start : Stmt := top 7
theorem sc_view_start : FnScope ["base", "view"] ["base", "view"] (defScope s_view_start) := ⟨rfl, rfl, rfl, by decide +kernel, rfl, by decide +kernel, by decide +kernel⟩
def b_view_start : St' := (sSeq (sExpr (mCall 3 m_check_number (mCons (mVar 0) (mCons (M.ret (.val (.str "base"))) (mCons (M.ret (.val (.int 1))) mNil)))))
 (sSeq (sExpr (mCall 3 m_check_number (mCons (mVar 1) (mCons (M.ret (.val (.str "view"))) (mCons (M.ret (.val (.int 0))) mNil)))))
 (sRet (m2 gAdd (m2 gMul (mVar 0) (mVar 1)) (m2 gDiv (m2 gMul (mVar 1) (m2 gSub (mVar 1) (M.ret (.val (.int 1))))) (M.ret (.val (.int 2))))))))
def m_view_start : FM := mFn 2 2 b_view_start
abbrev s_view_at : Stmt := top 8
theorem sc_view_at : FnScope ["base", "clock", "low", "high", "middle"] ["base", "clock"] (defScope s_view_at) := ⟨rfl, rfl, rfl, by decide +kernel, rfl, by decide +kernel, by decide +kernel⟩
def b_view_at : St' := (sSeq (sExpr (mCall 3 m_check_number (mCons (mVar 0) (mCons (M.ret (.val (.str "base"))) (mCons (M.ret (.val (.int 1))) mNil)))))
 (sSeq (sExpr (mCall 3 m_check_number (mCons (mVar 1) (mCons (M.ret (.val (.str "clock"))) (mCons (M.ret (.val (.int 0))) mNil)))))
 (sSeq (sUnp (gTupD 2 (gsCons (gSet 2) (gsCons (gSet 3) gsNil))) (mTup (mCons (M.ret (.val (.int 0))) (mCons (M.ret (.val (.int 1))) mNil))))
 (sSeq (sWhile 100000 (mBool (m2 gLe (mCall 2 m_view_start (mCons (mVar 0) (mCons (mVar 3) mNil))) (mVar 1)))
 (sPar 2 3 (mCons (mVar 3) (mCons (m2 gMul (M.ret (.val (.int 2))) (mVar 3)) mNil))))
 (sSeq (sWhile 100000 (mBool (m2 gGt (m2 gSub (mVar 3) (mVar 2)) (M.ret (.val (.int 1)))))
 (sSeq (sSet 4 (m2 gDiv (m2 gAdd (mVar 2) (mVar 3)) (M.ret (.val (.int 2)))))
 (sIf (mBool (m2 gLe (mCall 2 m_view_start (mCons (mVar 0) (mCons (mVar 4) mNil))) (mVar 1)))
 (sSet 2 (mVar 4))
 (sSet 3 (mVar 4)))))
 (sRet (mMove 2)))))))
def m_view_at : FM := mFn 5 2 b_view_at
abbrev s_leader_of : Stmt := top 9
theorem sc_leader_of : FnScope ["houses", "view"] ["houses", "view"] (defScope s_leader_of) := ⟨rfl, rfl, rfl, by decide +kernel, rfl, by decide +kernel, by decide +kernel⟩
def b_leader_of : St' := (sRet (m2 gMod (mVar 1) (mVar 0)))
def m_leader_of : FM := mFn 2 2 b_leader_of
abbrev s_law_pool : Stmt := top 11
theorem sc_law_pool : FnScope ["script", "pool", "at", "cell", "k", "number"] ["script"] (defScope s_law_pool) := ⟨rfl, rfl, rfl, by decide +kernel, rfl, by decide +kernel, by decide +kernel⟩
def b_law_pool : St' := (sSeq (sSet 1 (mLst mNil))
 (sSeq (sFor (mRange1 (mCons (M.bnd (mCons (M.bnd (mCons (mPeek 0) mNil) (g1 dLen)) (mCons (M.ret (.val (.int 63))) mNil)) (g2I fun i j => .int (if j < i then j else i))) mNil)) (gSet 2)
 (sSeq (sSet 3 (M.bnd (mCons (m2 (gD dIx) (mPeek 0) (mVar 2)) mNil) (g1 dInt)))
 (sSeq (sIf (mBool (m2 gLt (mVar 3) (M.ret (.val (.int 0)))))
 (sSet 3 (m2 gSub (M.ret (.val (.int 3))) (mVar 3)))
 sNx)
 (sIf (mBool (m2 gGe (mVar 3) (m2 gPow (M.ret (.val (.int 10))) (M.ret (.val (.int 18))))))
 (sFor (mRange1 (mCons (M.ret (.val (.int 48))) mNil)) (gSet 4)
 (sIf (mBool (m2 gGt (mVar 3) (M.ret (.val (.int 0)))))
 (sSeq (sExpr (mAppend 1 (m2 gMod (M.bnd (mCons (mVar 3) mNil) (g1 dInt)) (M.ret (.val (.int 30))))))
 (sSet 3 (m2 gDiv (mVar 3) (M.ret (.val (.int 30))))))
 sNx))
 (sSeq (sSet 5 (m2 gMod (M.bnd (mCons (m2 gAdd (m2 gAdd (m2 gMul (mVar 3) (M.ret (.val (.int 30011)))) (m2 gMul (mVar 2) (M.ret (.val (.int 7919))))) (M.ret (.val (.int 5)))) mNil) (g1 dInt)) (M.ret (.val (.int 2147483629)))))
 (sFor (mRange1 (mCons (M.ret (.val (.int 9))) mNil)) (gSet 4)
 (sSeq (sSet 5 (m2 gMod (M.bnd (mCons (m2 gAdd (m2 gAdd (m2 gAdd (m2 gMul (mVar 5) (M.ret (.val (.int 16807)))) (m2 gMul (mVar 4) (M.ret (.val (.int 104729))))) (mVar 2)) (M.ret (.val (.int 11)))) mNil) (g1 dInt)) (M.ret (.val (.int 2147483629)))))
 (sExpr (mAppend 1 (m2 gDiv (mVar 5) (M.ret (.val (.int 7)))))))))))))
 (sSeq (sExpr (mReverse 1))
 (sRet (mMove 1)))))
def m_law_pool : FM := mFn 6 1 b_law_pool
abbrev s_law_take : Stmt := top 12
theorem sc_law_take : FnScope ["pool", "many"] ["pool", "many"] (defScope s_law_take) := ⟨rfl, rfl, rfl, by decide +kernel, rfl, by decide +kernel, by decide +kernel⟩
def b_law_take : St' := (sSeq (sIf (mBool (m2 (gD dEq) (M.bnd (mCons (mPeek 0) mNil) (g1 dLen)) (M.ret (.val (.int 0)))))
 (sRet (M.ret (.val (.int 0))))
 sNx)
 (sRet (m2 gMod (M.bnd (mCons (mPop 0) mNil) (g1 dInt)) (mVar 1))))
def m_law_take : FM := mFn 2 2 b_law_take
abbrev s_law_int : Stmt := top 13
theorem sc_law_int : FnScope ["value"] ["value"] (defScope s_law_int) := ⟨rfl, rfl, rfl, by decide +kernel, rfl, by decide +kernel, by decide +kernel⟩
def b_law_int : St' := (sRet (mAndV (mIsa ["int"] (mPeek 0)) (mOfB (mNot (mBool (mIsa ["bool"] (mPeek 0)))))))
def m_law_int : FM := mFn 1 1 b_law_int
abbrev s_law_fault : Stmt := top 14
theorem sc_law_fault : FnScope ["word", "base", "value", "found", "error"] ["word", "base", "value"] (defScope s_law_fault) := ⟨rfl, rfl, rfl, by decide +kernel, rfl, by decide +kernel, by decide +kernel⟩
def b_law_fault : St' := (sSeq (sSet 3 (M.ret (.val .non)))
 (sSeq (sTry (sIf (mBool (m2 (gD dEq) (mPeek 0) (M.ret (.val (.int 0)))))
 (sExpr (mCall 2 m_view_start (mCons (mVar 1) (mCons (mVar 2) mNil))))
 (sExpr (mCall 2 m_view_at (mCons (mVar 1) (mCons (mVar 2) mNil)))))
 tb_BadNumber 4
 (sSet 3 (mLst (mCons (mErr 4 "BadNumber" "name") (mCons (mErrIs 4 ti_LinksError) mNil)))))
 (sRet (mMove 3))))
def m_law_fault : FM := mFn 5 3 b_law_fault
abbrev s_law_refusals_right : Stmt := top 15
theorem sc_law_refusals_right : FnScope ["bad", "base", "names", "word", "worse"] ["bad", "base"] (defScope s_law_refusals_right) := ⟨rfl, rfl, rfl, by decide +kernel, rfl, by decide +kernel, by decide +kernel⟩
def b_law_refusals_right : St' := (sSeq (sSet 2 (mLst (mCons (M.ret (.val (.str "view"))) (mCons (M.ret (.val (.str "clock"))) mNil))))
 (sSeq (sFor (mRange1 (mCons (M.ret (.val (.int 2))) mNil)) (gSet 3)
 (sSeq (sIf (mOr (mBool (m2 (gD dNe) (mFrz (mCall 3 m_law_fault (mCons (mVar 3) (mCons (mVar 0) (mCons (M.ret (.val (.int 5))) mNil))))) (mFrz (mLst (mCons (M.ret (.val (.str "base"))) (mCons (M.ret (.val (.bl true))) mNil)))))) (mBool (m2 (gD dNe) (mFrz (mCall 3 m_law_fault (mCons (mVar 3) (mCons (mVar 0) (mCons (mVar 0) mNil))))) (mFrz (mLst (mCons (M.ret (.val (.str "base"))) (mCons (M.ret (.val (.bl true))) mNil)))))))
 (sRet (M.ret (.val (.bl false))))
 sNx)
 (sSeq (sSet 4 (mVar 0))
 (sSeq (sIf (mBool (m2 (gD dEq) (mPeek 0) (M.ret (.val (.int 0)))))
 (sSet 4 (mUn (fun i => -i) (M.ret (.val (.int 1)))))
 sNx)
 (sIf (mBool (m2 (gD dNe) (mFrz (mCall 3 m_law_fault (mCons (mVar 3) (mCons (mVar 1) (mCons (mVar 4) mNil))))) (mFrz (mLst (mCons (m2 (gD dIx) (mPeek 2) (mVar 3)) (mCons (M.ret (.val (.bl true))) mNil))))))
 (sRet (M.ret (.val (.bl false))))
 sNx)))))
 (sRet (M.ret (.val (.bl true))))))
def m_law_refusals_right : FM := mFn 5 2 b_law_refusals_right
abbrev s_law_starts : Stmt := top 16
theorem sc_law_starts : FnScope ["base", "many", "starts", "view"] ["base", "many"] (defScope s_law_starts) := ⟨rfl, rfl, rfl, by decide +kernel, rfl, by decide +kernel, by decide +kernel⟩
def b_law_starts : St' := (sSeq (sSet 2 (mLst (mCons (M.ret (.val (.int 0))) mNil)))
 (sSeq (sFor (mRange1 (mCons (mVar 1) mNil)) (gSet 3)
 (sExpr (mAppend 2 (m2 gAdd (m2 gAdd (m2 (gD dIx) (mPeek 2) (mVar 3)) (mVar 0)) (mVar 3)))))
 (sRet (mMove 2))))
def m_law_starts : FM := mFn 4 2 b_law_starts
abbrev s_law_in : Stmt := top 17
theorem sc_law_in : FnScope ["starts", "clock", "found", "view"] ["starts", "clock"] (defScope s_law_in) := ⟨rfl, rfl, rfl, by decide +kernel, rfl, by decide +kernel, by decide +kernel⟩
def b_law_in : St' := (sSeq (sSet 2 (M.ret (.val (.int 0))))
 (sSeq (sFor (mRange1 (mCons (M.bnd (mCons (mPeek 0) mNil) (g1 dLen)) mNil)) (gSet 3)
 (sIf (mBool (m2 gLe (m2 (gD dIx) (mPeek 0) (mVar 3)) (mVar 1)))
 (sSet 2 (mVar 3))
 sNx))
 (sRet (mMove 2))))
def m_law_in : FM := mFn 4 2 b_law_in
abbrev s_law_clock_right : Stmt := top 18
theorem sc_law_clock_right : FnScope ["base", "starts", "clock", "told"] ["base", "starts", "clock"] (defScope s_law_clock_right) := ⟨rfl, rfl, rfl, by decide +kernel, rfl, by decide +kernel, by decide +kernel⟩
def b_law_clock_right : St' := (sSeq (sSet 3 (mCall 2 m_view_at (mCons (mVar 0) (mCons (mVar 2) mNil))))
 (sRet (mAndV (mCall 1 m_law_int (mCons (mVar 3) mNil)) (m2 (gD dEq) (mPeek 3) (mCall 2 m_law_in (mCons (mVar 1) (mCons (mVar 2) mNil)))))))
def m_law_clock_right : FM := mFn 4 3 b_law_clock_right
abbrev s_law : Stmt := top 19
theorem sc_law : FnScope ["script", "pool", "base", "houses", "far", "starts", "view", "clock", "bad", "told"] ["script"] (defScope s_law) := ⟨rfl, rfl, rfl, by decide +kernel, rfl, by decide +kernel, by decide +kernel⟩
def b_law : St' := (sSeq (sSet 1 (mCall 1 m_law_pool (mCons (mVar 0) mNil)))
 (sSeq (sSet 2 (m2 gAdd (M.ret (.val (.int 1))) (mCallO 2 0 m_law_take (mCons (mPeek 1) (mCons (M.ret (.val (.int 40))) mNil)))))
 (sSeq (sIf (mBool (m2 (gD dEq) (mCallO 2 0 m_law_take (mCons (mPeek 1) (mCons (M.ret (.val (.int 8))) mNil))) (M.ret (.val (.int 5)))))
 (sSet 2 (m2 gAdd (mVar 2) (m2 gPow (M.ret (.val (.int 10))) (M.ret (.val (.int 6))))))
 sNx)
 (sSeq (sSet 3 (m2 gAdd (M.ret (.val (.int 1))) (mCallO 2 0 m_law_take (mCons (mPeek 1) (mCons (M.ret (.val (.int 7))) mNil)))))
 (sSeq (sSet 4 (m2 gAdd (M.ret (.val (.int 30))) (mCallO 2 0 m_law_take (mCons (mPeek 1) (mCons (M.ret (.val (.int 300))) mNil)))))
 (sSeq (sSet 5 (mCall 2 m_law_starts (mCons (mVar 2) (mCons (m2 gAdd (mVar 4) (M.ret (.val (.int 1)))) mNil))))
 (sSeq (sFor (mRange1 (mCons (M.bnd (mCons (mPeek 5) mNil) (g1 dLen)) mNil)) (gSet 6)
 (sIf (mOr (mBool (m2 gLe (mVar 6) (M.ret (.val (.int 30))))) (mBool (m2 (gD dEq) (mPeek 6) (mPeek 4))))
 (sSeq (sSet 9 (mCall 2 m_view_start (mCons (mVar 2) (mCons (mVar 6) mNil))))
 (sSeq (sIf (mOr (mNot (mTru (mCall 1 m_law_int (mCons (mVar 9) mNil)))) (mBool (m2 (gD dNe) (mPeek 9) (m2 (gD dIx) (mPeek 5) (mVar 6)))))
 (sRet (M.ret (.val (.bl false))))
 sNx)
 (sSeq (sIf (mBool (m2 (gD dNe) (mCall 2 m_leader_of (mCons (mVar 3) (mCons (mVar 6) mNil))) (m2 gMod (M.bnd (mCons (mVar 6) mNil) (g1 dInt)) (mVar 3))))
 (sRet (M.ret (.val (.bl false))))
 sNx)
 (sSeq (sIf (mNot (mTru (mCall 3 m_law_clock_right (mCons (mVar 2) (mCons (mVar 5) (mCons (m2 (gD dIx) (mPeek 5) (mVar 6)) mNil))))))
 (sRet (M.ret (.val (.bl false))))
 sNx)
 (sIf (mBool (m2 (gD dNe) (mCall 2 m_view_at (mCons (mVar 2) (mCons (m2 gSub (m2 gAdd (m2 gAdd (m2 (gD dIx) (mPeek 5) (mVar 6)) (mVar 2)) (mVar 6)) (M.ret (.val (.int 1)))) mNil))) (mPeek 6)))
 (sRet (M.ret (.val (.bl false))))
 sNx)))))
 sNx))
 (sSeq (sFor (mRange1 (mCons (M.ret (.val (.int 151))) mNil)) (gSet 7)
 (sIf (mNot (mTru (mCall 3 m_law_clock_right (mCons (mVar 2) (mCons (mVar 5) (mCons (mVar 7) mNil))))))
 (sRet (M.ret (.val (.bl false))))
 sNx))
 (sSeq (sSet 8 (m2 (gD dIx) (mFrz (mLst (mCons (M.ret (.val (.int 0))) (mCons (mUn (fun i => -i) (M.ret (.val (.int 1)))) (mCons (M.ret (.val (.bl true))) (mCons (M.ret (.val .non)) mNil)))))) (mCallO 2 0 m_law_take (mCons (mPeek 1) (mCons (M.ret (.val (.int 4))) mNil)))))
 (sRet (mCall 2 m_law_refusals_right (mCons (mVar 8) (mCons (mVar 2) mNil)))))))))))))
def m_law : FM := mFn 10 1 b_law
/-- what the top has written -/
structure Tx (K : Fg) (mg : Mg) (c_LinksError c_BadNumber i_BadNumber : Addr) : Prop where
  d_is_number : DfAt K mg "is_number" "is_number" s_is_number ["value"]
  d_check_number : DfAt K mg "check_number" "check_number" s_check_number ["value", "name", "least"]
  d_view_start : DfAt K mg "view_start" "view_start" s_view_start ["base", "view"]
  d_view_at : DfAt K mg "view_at" "view_at" s_view_at ["base", "clock"]
  d_leader_of : DfAt K mg "leader_of" "leader_of" s_leader_of ["houses", "view"]
  d_law_pool : DfAt K mg "_law_pool" "_law_pool" s_law_pool ["script"]
  d_law_take : DfAt K mg "_law_take" "_law_take" s_law_take ["pool", "many"]
  d_law_int : DfAt K mg "_law_int" "_law_int" s_law_int ["value"]
  d_law_fault : DfAt K mg "_law_fault" "_law_fault" s_law_fault ["word", "base", "value"]
  d_law_refusals_right : DfAt K mg "_law_refusals_right" "_law_refusals_right" s_law_refusals_right ["bad", "base"]
  d_law_starts : DfAt K mg "_law_starts" "_law_starts" s_law_starts ["base", "many"]
  d_law_in : DfAt K mg "_law_in" "_law_in" s_law_in ["starts", "clock"]
  d_law_clock_right : DfAt K mg "_law_clock_right" "_law_clock_right" s_law_clock_right ["base", "starts", "clock"]
  d_law : DfAt K mg "law" "law" s_law ["script"]
  b_isinstance : mg "isinstance" = none
  b_int : mg "int" = none
  b_bool : mg "bool" = none
  b_len : mg "len" = none
  b_min : mg "min" = none
  b_range : mg "range" = none
  g_LinksError : mg "LinksError" = some (.ref c_LinksError)
  g_BadNumber : mg "BadNumber" = some (.ref c_BadNumber)
  f_BadNumber : XfC K c_BadNumber
  t_BadNumber : PySem.W.typeIn K (.ref c_BadNumber) = some (.type "type")
  f_LinksError : XfC K c_LinksError
  t_LinksError : PySem.W.typeIn K (.ref c_LinksError) = some (.type "type")
  e_BadNumber : ExcC K c_BadNumber
  x_BadNumber : PySem.X_name.Txt K mg "BadNumber" "BadNumber.__init__" c_BadNumber i_BadNumber
  no_BadNumber_name : PySem.W.findIn K (.ref c_BadNumber) "name" = some none
  ki_BadNumber_LinksError : PySem.W.kitOne K (.ref c_BadNumber) (.ref c_LinksError) = some true
  su_BadNumber_BadNumber : PySem.W.subIn K (.ref c_BadNumber) (.ref c_BadNumber) = some true
section
variable {P : Program} {w : World} {K : Fg} {mg : Mg} {base : Heap} {c_LinksError c_BadNumber i_BadNumber : Addr}
theorem ok_is_number (T : Tx K mg c_LinksError c_BadNumber i_BadNumber) : DefOk P w K mg base "is_number" 1 ["value"] [] m_is_number :=
 def_ok T.d_is_number sc_is_number (by decide) fun f cdv A outer s H E Fe H0 s0 hr tk =>
 (fss_one (fs_ret (fe_and (fe_isa "int" rfl T.b_isinstance rfl T.b_int boot_int (fe_peek 0)) (fe_one (fe_not (fe_isa "bool" rfl T.b_isinstance rfl T.b_bool boot_bool (fe_peek 0)))))))
theorem ok_check_number (T : Tx K mg c_LinksError c_BadNumber i_BadNumber) : DefOk P w K mg base "check_number" 2 ["value", "name", "least"] [] m_check_number :=
 def_ok T.d_check_number sc_check_number (by decide) fun f cdv A outer s H E Fe H0 s0 hr tk =>
 (fss_cons (fs_if (FW.ft (fw_or (ft_not (ft_tru (fe_callD (ok_is_number T) (hr.mono (by decide)) rfl tk (fa_cons (fe_var 0) fa_nil)))) (fw_or1 (FW.ft (fw_and (ft_oc oc_notN (fe_peek 2) fe_non) (fw_and1 (ft_oc oc_lt (fe_var 0) (fe_var 2))))))))
 (fss_one (X_name_raise T.x_BadNumber rfl hr tk (fa_cons (fe_var 1) fa_nil) rfl))
 fss_nil)
 (fss_one (fs_ret (fe_move 0))))
theorem ok_view_start (T : Tx K mg c_LinksError c_BadNumber i_BadNumber) : DefOk P w K mg base "view_start" 3 ["base", "view"] [] m_view_start :=
 def_ok T.d_view_start sc_view_start (by decide) fun f cdv A outer s H E Fe H0 s0 hr tk =>
 (fss_cons (fs_expr (fe_callD (ok_check_number T) (hr.mono (by decide)) rfl tk (fa_cons (fe_var 0) (fa_cons fe_str (fa_cons fe_int fa_nil)))))
 (fss_cons (fs_expr (fe_callD (ok_check_number T) (hr.mono (by decide)) rfl tk (fa_cons (fe_var 1) (fa_cons fe_str (fa_cons fe_int fa_nil)))))
 (fss_one (fs_ret (fe_add (fe_mul (fe_var 0) (fe_var 1)) (fe_div (fe_mul (fe_var 1) (fe_sub (fe_var 1) fe_int)) fe_int))))))
theorem ok_view_at (T : Tx K mg c_LinksError c_BadNumber i_BadNumber) : DefOk P w K mg base "view_at" 4 ["base", "clock"] [] m_view_at :=
 def_ok T.d_view_at sc_view_at (by decide) fun f cdv A outer s H E Fe H0 s0 hr tk =>
 (fss_cons (fs_expr (fe_callD (ok_check_number T) (hr.mono (by decide)) rfl tk (fa_cons (fe_var 0) (fa_cons fe_str (fa_cons fe_int fa_nil)))))
 (fss_cons (fs_expr (fe_callD (ok_check_number T) (hr.mono (by decide)) rfl tk (fa_cons (fe_var 1) (fa_cons fe_str (fa_cons fe_int fa_nil)))))
 (fss_cons (fs_unp (fe_tup (fa_cons fe_int (fa_cons fe_int fa_nil))) (fg_tup rfl (fgs_cons (fg_name 2 sc_view_at.nd) (fgs_cons (fg_name 3 sc_view_at.nd) fgs_nil))))
 (fss_cons (fs_while 100000 PassesOwn.leaving (ft_oc oc_le (fe_callD (ok_view_start T) (hr.mono (by decide)) rfl tk (fa_cons (fe_var 0) (fa_cons (fe_var 3) fa_nil))) (fe_var 1))
 (fss_one (fs_par 2 3 rfl sc_view_at.nd (fa_cons (fe_var 3) (fa_cons (fe_mul fe_int (fe_var 3)) fa_nil)))))
 (fss_cons (fs_while 100000 PassesOwn.leaving (ft_oc oc_gt (fe_sub (fe_var 3) (fe_var 2)) fe_int)
 (fss_cons (fs_set 4 sc_view_at.nd (fe_div (fe_add (fe_var 2) (fe_var 3)) fe_int))
 (fss_one (fs_if (ft_oc oc_le (fe_callD (ok_view_start T) (hr.mono (by decide)) rfl tk (fa_cons (fe_var 0) (fa_cons (fe_var 4) fa_nil))) (fe_var 1))
 (fss_one (fs_set 2 sc_view_at.nd (fe_var 4)))
 (fss_one (fs_set 3 sc_view_at.nd (fe_var 4)))))))
 (fss_one (fs_ret (fe_move 2))))))))
theorem ok_leader_of (T : Tx K mg c_LinksError c_BadNumber i_BadNumber) : DefOk P w K mg base "leader_of" 1 ["houses", "view"] [] m_leader_of :=
 def_ok T.d_leader_of sc_leader_of (by decide) fun f cdv A outer s H E Fe H0 s0 hr tk =>
 (fss_one (fs_ret (fe_mod (fe_var 1) (fe_var 0))))
theorem ok_law_pool (T : Tx K mg c_LinksError c_BadNumber i_BadNumber) : DefOk P w K mg base "_law_pool" 1 ["script"] [] m_law_pool :=
 def_ok T.d_law_pool sc_law_pool (by decide) fun f cdv A outer s H E Fe H0 s0 hr tk =>
 (fss_cons (fs_set 1 sc_law_pool.nd (fe_lst fa_nil))
 (fss_cons (fs_for PassesOwn.leaving rfl (fi_range1 rfl T.b_range (fa_cons (fe_min2 rfl rfl T.b_min (fa_cons (fe_len rfl T.b_len (fa_cons (fe_peek 0) fa_nil)) (fa_cons fe_int fa_nil))) fa_nil)) (fg_name 2 sc_law_pool.nd)
 (fss_cons (fs_set 3 sc_law_pool.nd (fe_int1 rfl T.b_int (fa_cons (fe_at (fe_peek 0) (fe_var 2)) fa_nil)))
 (fss_cons (fs_if (ft_oc oc_lt (fe_var 3) fe_int)
 (fss_one (fs_set 3 sc_law_pool.nd (fe_sub fe_int (fe_var 3))))
 fss_nil)
 (fss_one (fs_if (ft_oc oc_ge (fe_var 3) (fe_pow fe_int fe_int))
 (fss_one (fs_for PassesOwn.leaving rfl (fi_range1 rfl T.b_range (fa_cons fe_int fa_nil)) (fg_name 4 sc_law_pool.nd)
 (fss_one (fs_if (ft_oc oc_gt (fe_var 3) fe_int)
 (fss_cons (fs_expr (fe_append 1 (fe_mod (fe_int1 rfl T.b_int (fa_cons (fe_var 3) fa_nil)) fe_int)))
 (fss_one (fs_set 3 sc_law_pool.nd (fe_div (fe_var 3) fe_int))))
 fss_nil))))
 (fss_cons (fs_set 5 sc_law_pool.nd (fe_mod (fe_int1 rfl T.b_int (fa_cons (fe_add (fe_add (fe_mul (fe_var 3) fe_int) (fe_mul (fe_var 2) fe_int)) fe_int) fa_nil)) fe_int))
 (fss_one (fs_for PassesOwn.leaving rfl (fi_range1 rfl T.b_range (fa_cons fe_int fa_nil)) (fg_name 4 sc_law_pool.nd)
 (fss_cons (fs_set 5 sc_law_pool.nd (fe_mod (fe_int1 rfl T.b_int (fa_cons (fe_add (fe_add (fe_add (fe_mul (fe_var 5) fe_int) (fe_mul (fe_var 4) fe_int)) (fe_var 2)) fe_int) fa_nil)) fe_int))
 (fss_one (fs_expr (fe_append 1 (fe_div (fe_var 5) fe_int)))))))))))))
 (fss_cons (fs_expr (fe_reverse 1))
 (fss_one (fs_ret (fe_move 1))))))
theorem ok_law_take (T : Tx K mg c_LinksError c_BadNumber i_BadNumber) : DefOk P w K mg base "_law_take" 1 ["pool", "many"] [0] m_law_take :=
 def_ok T.d_law_take sc_law_take (by decide) fun f cdv A outer s H E Fe H0 s0 hr tk =>
 (fss_cons (fs_if (ft_oc (oc_eq hr) (fe_len rfl T.b_len (fa_cons (fe_peek 0) fa_nil)) fe_int)
 (fss_one (fs_ret fe_int))
 fss_nil)
 (fss_one (fs_ret (fe_mod (fe_int1 rfl T.b_int (fa_cons (fe_pop 0) fa_nil)) (fe_var 1)))))
theorem ok_law_int (T : Tx K mg c_LinksError c_BadNumber i_BadNumber) : DefOk P w K mg base "_law_int" 1 ["value"] [] m_law_int :=
 def_ok T.d_law_int sc_law_int (by decide) fun f cdv A outer s H E Fe H0 s0 hr tk =>
 (fss_one (fs_ret (fe_and (fe_isa "int" rfl T.b_isinstance rfl T.b_int boot_int (fe_peek 0)) (fe_one (fe_not (fe_isa "bool" rfl T.b_isinstance rfl T.b_bool boot_bool (fe_peek 0)))))))
theorem ok_law_fault (T : Tx K mg c_LinksError c_BadNumber i_BadNumber) : DefOk P w K mg base "_law_fault" 5 ["word", "base", "value"] [] m_law_fault :=
 def_ok T.d_law_fault sc_law_fault (by decide) fun f cdv A outer s H E Fe H0 s0 hr tk =>
 (fss_cons (fs_set 3 sc_law_fault.nd fe_non)
 (fss_cons (fs_try (i := 4) (tbl := tb_BadNumber) rfl rfl sc_law_fault.nd rfl rfl ⟨rfl, by decide, .inl T.g_BadNumber⟩ tk (nmem rfl) rfl (tbl_ok (.cons ⟨c_BadNumber, T.g_BadNumber, PySem.W.exm_ref T.f_BadNumber.exC T.f_BadNumber.hdC T.t_BadNumber T.su_BadNumber_BadNumber⟩ (.nil)))
 (fun W' pn xe tk' po => (fss_one (fs_if (ft_oc (oc_eq hr) (fe_peek 0) fe_int)
 (fss_one (fs_expr (fe_callD (ok_view_start T) (hr.mono (by decide)) rfl tk' (fa_cons (fe_var 1) (fa_cons (fe_var 2) fa_nil)))))
 (fss_one (fs_expr (fe_callD (ok_view_at T) (hr.mono (by decide)) rfl tk' (fa_cons (fe_var 1) (fa_cons (fe_var 2) fa_nil))))))))
 (fun a oe cls d pn hz hf => (fss_one (fs_set 3 sc_law_fault.nd (fe_lst (fa_cons (fe_err 4 "BadNumber" T.g_BadNumber T.f_BadNumber T.no_BadNumber_name hz hf) (fa_cons (fe_erris 4 ti_LinksError hz hf rfl T.b_isinstance rfl T.g_LinksError (tbi_ok (.cons ⟨c_BadNumber, T.g_BadNumber, T.e_BadNumber, T.ki_BadNumber_LinksError⟩ (.nil)))) fa_nil)))))))
 (fss_one (fs_ret (fe_move 3)))))
theorem ok_law_refusals_right (T : Tx K mg c_LinksError c_BadNumber i_BadNumber) : DefOk P w K mg base "_law_refusals_right" 6 ["bad", "base"] [] m_law_refusals_right :=
 def_ok T.d_law_refusals_right sc_law_refusals_right (by decide) fun f cdv A outer s H E Fe H0 s0 hr tk =>
 (fss_cons (fs_set 2 sc_law_refusals_right.nd (fe_lst (fa_cons fe_str (fa_cons fe_str fa_nil))))
 (fss_cons (fs_for PassesOwn.leaving rfl (fi_range1 rfl T.b_range (fa_cons fe_int fa_nil)) (fg_name 3 sc_law_refusals_right.nd)
 (fss_cons (fs_if (FW.ft (fw_or (ft_oc (oc_ne hr) (FE.frz (fe_callD (ok_law_fault T) (hr.mono (by decide)) rfl tk (fa_cons (fe_var 3) (fa_cons (fe_var 0) (fa_cons fe_int fa_nil))))) (FE.frz (fe_lst (fa_cons fe_str (fa_cons fe_bl fa_nil))))) (fw_or1 (ft_oc (oc_ne hr) (FE.frz (fe_callD (ok_law_fault T) (hr.mono (by decide)) rfl tk (fa_cons (fe_var 3) (fa_cons (fe_var 0) (fa_cons (fe_var 0) fa_nil))))) (FE.frz (fe_lst (fa_cons fe_str (fa_cons fe_bl fa_nil))))))))
 (fss_one (fs_ret fe_bl))
 fss_nil)
 (fss_cons (fs_set 4 sc_law_refusals_right.nd (fe_var 0))
 (fss_cons (fs_if (ft_oc (oc_eq hr) (fe_peek 0) fe_int)
 (fss_one (fs_set 4 sc_law_refusals_right.nd (fe_neg fe_int)))
 fss_nil)
 (fss_one (fs_if (ft_oc (oc_ne hr) (FE.frz (fe_callD (ok_law_fault T) (hr.mono (by decide)) rfl tk (fa_cons (fe_var 3) (fa_cons (fe_var 1) (fa_cons (fe_var 4) fa_nil))))) (FE.frz (fe_lst (fa_cons (fe_at (fe_peek 2) (fe_var 3)) (fa_cons fe_bl fa_nil)))))
 (fss_one (fs_ret fe_bl))
 fss_nil))))))
 (fss_one (fs_ret fe_bl))))
theorem ok_law_starts (T : Tx K mg c_LinksError c_BadNumber i_BadNumber) : DefOk P w K mg base "_law_starts" 1 ["base", "many"] [] m_law_starts :=
 def_ok T.d_law_starts sc_law_starts (by decide) fun f cdv A outer s H E Fe H0 s0 hr tk =>
 (fss_cons (fs_set 2 sc_law_starts.nd (fe_lst (fa_cons fe_int fa_nil)))
 (fss_cons (fs_for PassesOwn.leaving rfl (fi_range1 rfl T.b_range (fa_cons (fe_var 1) fa_nil)) (fg_name 3 sc_law_starts.nd)
 (fss_one (fs_expr (fe_append 2 (fe_add (fe_add (fe_at (fe_peek 2) (fe_var 3)) (fe_var 0)) (fe_var 3))))))
 (fss_one (fs_ret (fe_move 2)))))
theorem ok_law_in (T : Tx K mg c_LinksError c_BadNumber i_BadNumber) : DefOk P w K mg base "_law_in" 1 ["starts", "clock"] [] m_law_in :=
 def_ok T.d_law_in sc_law_in (by decide) fun f cdv A outer s H E Fe H0 s0 hr tk =>
 (fss_cons (fs_set 2 sc_law_in.nd fe_int)
 (fss_cons (fs_for PassesOwn.leaving rfl (fi_range1 rfl T.b_range (fa_cons (fe_len rfl T.b_len (fa_cons (fe_peek 0) fa_nil)) fa_nil)) (fg_name 3 sc_law_in.nd)
 (fss_one (fs_if (ft_oc oc_le (fe_at (fe_peek 0) (fe_var 3)) (fe_var 1))
 (fss_one (fs_set 2 sc_law_in.nd (fe_var 3)))
 fss_nil)))
 (fss_one (fs_ret (fe_move 2)))))
theorem ok_law_clock_right (T : Tx K mg c_LinksError c_BadNumber i_BadNumber) : DefOk P w K mg base "_law_clock_right" 5 ["base", "starts", "clock"] [] m_law_clock_right :=
 def_ok T.d_law_clock_right sc_law_clock_right (by decide) fun f cdv A outer s H E Fe H0 s0 hr tk =>
 (fss_cons (fs_set 3 sc_law_clock_right.nd (fe_callD (ok_view_at T) (hr.mono (by decide)) rfl tk (fa_cons (fe_var 0) (fa_cons (fe_var 2) fa_nil))))
 (fss_one (fs_ret (fe_and (fe_callD (ok_law_int T) (hr.mono (by decide)) rfl tk (fa_cons (fe_var 3) fa_nil)) (fe_one (fe_oc (oc_eq hr) (fe_peek 3) (fe_callD (ok_law_in T) (hr.mono (by decide)) rfl tk (fa_cons (fe_var 1) (fa_cons (fe_var 2) fa_nil)))))))))
theorem okF_law (T : Tx K mg c_LinksError c_BadNumber i_BadNumber) {f : Addr} {fd : FuncData} (F : Fun K "law" "law" s_law f fd) : FnOk P w K mg base (L2.CX P w) 7 f fd ["script"] (spM K mg 1 [] m_law) :=
 fn_ok F sc_law (by decide) fun cdv A outer s H E Fe H0 s0 hr tk =>
 (fss_cons (fs_set 1 sc_law.nd (fe_callD (ok_law_pool T) (hr.mono (by decide)) rfl tk (fa_cons (fe_var 0) fa_nil)))
 (fss_cons (fs_set 2 sc_law.nd (fe_add fe_int (fe_callDO (ok_law_take T) (hr.mono (by decide)) rfl tk (fa_cons (fe_peek 1) (fa_cons fe_int fa_nil)))))
 (fss_cons (fs_if (ft_oc (oc_eq hr) (fe_callDO (ok_law_take T) (hr.mono (by decide)) rfl tk (fa_cons (fe_peek 1) (fa_cons fe_int fa_nil))) fe_int)
 (fss_one (fs_set 2 sc_law.nd (fe_add (fe_var 2) (fe_pow fe_int fe_int))))
 fss_nil)
 (fss_cons (fs_set 3 sc_law.nd (fe_add fe_int (fe_callDO (ok_law_take T) (hr.mono (by decide)) rfl tk (fa_cons (fe_peek 1) (fa_cons fe_int fa_nil)))))
 (fss_cons (fs_set 4 sc_law.nd (fe_add fe_int (fe_callDO (ok_law_take T) (hr.mono (by decide)) rfl tk (fa_cons (fe_peek 1) (fa_cons fe_int fa_nil)))))
 (fss_cons (fs_set 5 sc_law.nd (fe_callD (ok_law_starts T) (hr.mono (by decide)) rfl tk (fa_cons (fe_var 2) (fa_cons (fe_add (fe_var 4) fe_int) fa_nil))))
 (fss_cons (fs_for PassesOwn.leaving rfl (fi_range1 rfl T.b_range (fa_cons (fe_len rfl T.b_len (fa_cons (fe_peek 5) fa_nil)) fa_nil)) (fg_name 6 sc_law.nd)
 (fss_one (fs_if (FW.ft (fw_or (ft_oc oc_le (fe_var 6) fe_int) (fw_or1 (ft_oc (oc_eq hr) (fe_peek 6) (fe_peek 4)))))
 (fss_cons (fs_set 9 sc_law.nd (fe_callD (ok_view_start T) (hr.mono (by decide)) rfl tk (fa_cons (fe_var 2) (fa_cons (fe_var 6) fa_nil))))
 (fss_cons (fs_if (FW.ft (fw_or (ft_not (ft_tru (fe_callD (ok_law_int T) (hr.mono (by decide)) rfl tk (fa_cons (fe_var 9) fa_nil)))) (fw_or1 (ft_oc (oc_ne hr) (fe_peek 9) (fe_at (fe_peek 5) (fe_var 6))))))
 (fss_one (fs_ret fe_bl))
 fss_nil)
 (fss_cons (fs_if (ft_oc (oc_ne hr) (fe_callD (ok_leader_of T) (hr.mono (by decide)) rfl tk (fa_cons (fe_var 3) (fa_cons (fe_var 6) fa_nil))) (fe_mod (fe_int1 rfl T.b_int (fa_cons (fe_var 6) fa_nil)) (fe_var 3)))
 (fss_one (fs_ret fe_bl))
 fss_nil)
 (fss_cons (fs_if (ft_not (ft_tru (fe_callD (ok_law_clock_right T) (hr.mono (by decide)) rfl tk (fa_cons (fe_var 2) (fa_cons (fe_var 5) (fa_cons (fe_at (fe_peek 5) (fe_var 6)) fa_nil))))))
 (fss_one (fs_ret fe_bl))
 fss_nil)
 (fss_one (fs_if (ft_oc (oc_ne hr) (fe_callD (ok_view_at T) (hr.mono (by decide)) rfl tk (fa_cons (fe_var 2) (fa_cons (fe_sub (fe_add (fe_add (fe_at (fe_peek 5) (fe_var 6)) (fe_var 2)) (fe_var 6)) fe_int) fa_nil))) (fe_peek 6))
 (fss_one (fs_ret fe_bl))
 fss_nil))))))
 fss_nil)))
 (fss_cons (fs_for PassesOwn.leaving rfl (fi_range1 rfl T.b_range (fa_cons fe_int fa_nil)) (fg_name 7 sc_law.nd)
 (fss_one (fs_if (ft_not (ft_tru (fe_callD (ok_law_clock_right T) (hr.mono (by decide)) rfl tk (fa_cons (fe_var 2) (fa_cons (fe_var 5) (fa_cons (fe_var 7) fa_nil))))))
 (fss_one (fs_ret fe_bl))
 fss_nil)))
 (fss_cons (fs_set 8 sc_law.nd (fe_at (FE.frz (fe_lst (fa_cons fe_int (fa_cons (fe_neg fe_int) (fa_cons fe_bl (fa_cons fe_non fa_nil)))))) (fe_callDO (ok_law_take T) (hr.mono (by decide)) rfl tk (fa_cons (fe_peek 1) (fa_cons fe_int fa_nil)))))
 (fss_one (fs_ret (fe_callD (ok_law_refusals_right T) (hr.mono (by decide)) rfl tk (fa_cons (fe_var 8) (fa_cons (fe_var 2) fa_nil))))))))))))))
end
end K79
namespace K79
open PySem PySem.Spec L2 FL
open PyProof.Rows hiding St
section
variable {Q : R → List L → Prop} {E : Er → List L → Prop}
theorem w_num {i : Int} (q : ∀ ls, Q (.val (.bl true)) ls) : Wo (m_is_number [.val (.int i)]) Q E := by
  unfold m_is_number
  refine wo_fn ?_
  unfold b_is_number
  simp only [Wp_ret, Wp_no, Wp_bnd, Wp_ite, Raw.stay_val, Raw.stay_bor, Wp_m2, Wp_var, Wp_peek, Wp_move, Wp_frz, Raw.frz_own, Raw.frz_val, Raw.frz_lst, Wp_gI, Wp_gD, Wp_g1, Wp_g2I, Raw.dt_val, Raw.dt_own, Raw.dt_bor, Wp_isa, Wp_bool, Wp_tru, Wp_not, Wp_and, Wp_or, Wp_ofB, Wp_if, Wp_andV, Wp_orV, Wp_un, Wp_nil, Wp_cons, Raw.datas_nil, Raw.datas_cons, Raw.vals_nil, Raw.vals_cons, Wp_tup, Wp_lst, Wp_call, Wp_callO, Wp_set, Wp_app, Wp_pop, Wp_rev, Wp_range1, Wp_range2, Wp_err, Wp_erris, Ws_nx, Ws_bk, Ws_ct, Ws_retN, Ws_expr, Ws_ret, Ws_if, Ws_set, Ws_par, Ws_unp, Ws_raise, Ws_raise0, dEq_ii, dNe_ii, dLen_lst, dLen_wls, dLen_tup, ix_lst, ix_wls, ix_tup', enF, gSet, gTupD, gsCons, gsNil, ↓reduceIte, List.getElem?_cons_zero, List.getElem?_cons_succ, List.getElem?_nil, List.set_cons_zero, List.set_cons_succ, List.set_nil, List.length_cons, List.length_nil, List.replicate, List.cons_append, List.nil_append, List.append_nil, List.take, Option.map_some, decide_eq_true_eq, decide_eq_false_iff_not, Bool.not_eq_true', Bool.not_eq_false', Bool.not_not, Bool.not_true, Bool.not_false, true_and, and_true, false_and, and_false, imp_self, implies_true, not_false_eq_true, not_true_eq_false, true_implies, false_implies, Bool.true_eq_false, Bool.false_eq_true, forall_const, Nat.reduceAdd, Nat.reduceSub, Nat.reduceEqDiff, Nat.reduceLeDiff, mulOk_iff, divOk_iff, modOk_iff, powOk_iff, small_iff, isa_int_non, isa_int_bl, isa_int_int, isa_int_str, isa_int_tup, isa_int_lst, isa_int_wls, isa_int_dic, isa_bool_non, isa_bool_bl, isa_bool_int, isa_bool_str, isa_bool_tup, isa_bool_lst, isa_bool_wls, isa_bool_dic, isa_str_non, isa_str_bl, isa_str_int, isa_str_str, isa_str_tup, isa_str_lst, isa_str_wls, isa_str_dic, isa_list_non, isa_list_bl, isa_list_int, isa_list_str, isa_list_tup, isa_list_lst, isa_list_wls, isa_list_dic, isa_tuple_non, isa_tuple_bl, isa_tuple_int, isa_tuple_str, isa_tuple_tup, isa_tuple_lst, isa_tuple_wls, isa_tuple_dic, isa_list_tuple_non, isa_list_tuple_bl, isa_list_tuple_int, isa_list_tuple_str, isa_list_tuple_tup, isa_list_tuple_lst, isa_list_tuple_wls, isa_list_tuple_dic, isa_int_str_non, isa_int_str_bl, isa_int_str_int, isa_int_str_str, isa_int_str_tup, isa_int_str_lst, isa_int_str_wls, isa_int_str_dic, isa_str_int_non, isa_str_int_bl, isa_str_int_int, isa_str_int_str, isa_str_int_tup, isa_str_int_lst, isa_str_int_wls, isa_str_int_dic, isa_tuple_list_non, isa_tuple_list_bl, isa_tuple_list_int, isa_tuple_list_str, isa_tuple_list_tup, isa_tuple_list_lst, isa_tuple_list_wls, isa_tuple_list_dic, dIsN_bl, dNotN_bl, dIsN_int, dNotN_int, dIsN_str, dNotN_str, dIsN_tup, dNotN_tup, dIsN_lst, dNotN_lst, dIsN_wls, dNotN_wls, dIsN_dic, dNotN_dic, dIsN_non, dNotN_non, tru_bl, tru_non, tru_int, tru_lst, tru_wls, tru_tup, int_int, back_val', back_own', back_non]
  exact q _
theorem w_check {i l : Int} {nm : Str} (h : l ≤ i) (q : ∀ ls, Q (.val (.int i)) ls) : Wo (m_check_number [.val (.int i), .val (.str nm), .val (.int l)]) Q E := by
  unfold m_check_number
  refine wo_fn ?_
  unfold b_check_number
  refine ws_seq fun K hK => ?_
  simp only [Wp_ret, Wp_no, Wp_bnd, Wp_ite, Raw.stay_val, Raw.stay_bor, Wp_m2, Wp_var, Wp_peek, Wp_move, Wp_frz, Raw.frz_own, Raw.frz_val, Raw.frz_lst, Wp_gI, Wp_gD, Wp_g1, Wp_g2I, Raw.dt_val, Raw.dt_own, Raw.dt_bor, Wp_isa, Wp_bool, Wp_tru, Wp_not, Wp_and, Wp_or, Wp_ofB, Wp_if, Wp_andV, Wp_orV, Wp_un, Wp_nil, Wp_cons, Raw.datas_nil, Raw.datas_cons, Raw.vals_nil, Raw.vals_cons, Wp_tup, Wp_lst, Wp_call, Wp_callO, Wp_set, Wp_app, Wp_pop, Wp_rev, Wp_range1, Wp_range2, Wp_err, Wp_erris, Ws_nx, Ws_bk, Ws_ct, Ws_retN, Ws_expr, Ws_ret, Ws_if, Ws_set, Ws_par, Ws_unp, Ws_raise, Ws_raise0, dEq_ii, dNe_ii, dLen_lst, dLen_wls, dLen_tup, ix_lst, ix_wls, ix_tup', enF, gSet, gTupD, gsCons, gsNil, ↓reduceIte, List.getElem?_cons_zero, List.getElem?_cons_succ, List.getElem?_nil, List.set_cons_zero, List.set_cons_succ, List.set_nil, List.length_cons, List.length_nil, List.replicate, List.cons_append, List.nil_append, List.append_nil, List.take, Option.map_some, decide_eq_true_eq, decide_eq_false_iff_not, Bool.not_eq_true', Bool.not_eq_false', Bool.not_not, Bool.not_true, Bool.not_false, true_and, and_true, false_and, and_false, imp_self, implies_true, not_false_eq_true, not_true_eq_false, true_implies, false_implies, Bool.true_eq_false, Bool.false_eq_true, forall_const, Nat.reduceAdd, Nat.reduceSub, Nat.reduceEqDiff, Nat.reduceLeDiff, mulOk_iff, divOk_iff, modOk_iff, powOk_iff, small_iff, isa_int_non, isa_int_bl, isa_int_int, isa_int_str, isa_int_tup, isa_int_lst, isa_int_wls, isa_int_dic, isa_bool_non, isa_bool_bl, isa_bool_int, isa_bool_str, isa_bool_tup, isa_bool_lst, isa_bool_wls, isa_bool_dic, isa_str_non, isa_str_bl, isa_str_int, isa_str_str, isa_str_tup, isa_str_lst, isa_str_wls, isa_str_dic, isa_list_non, isa_list_bl, isa_list_int, isa_list_str, isa_list_tup, isa_list_lst, isa_list_wls, isa_list_dic, isa_tuple_non, isa_tuple_bl, isa_tuple_int, isa_tuple_str, isa_tuple_tup, isa_tuple_lst, isa_tuple_wls, isa_tuple_dic, isa_list_tuple_non, isa_list_tuple_bl, isa_list_tuple_int, isa_list_tuple_str, isa_list_tuple_tup, isa_list_tuple_lst, isa_list_tuple_wls, isa_list_tuple_dic, isa_int_str_non, isa_int_str_bl, isa_int_str_int, isa_int_str_str, isa_int_str_tup, isa_int_str_lst, isa_int_str_wls, isa_int_str_dic, isa_str_int_non, isa_str_int_bl, isa_str_int_int, isa_str_int_str, isa_str_int_tup, isa_str_int_lst, isa_str_int_wls, isa_str_int_dic, isa_tuple_list_non, isa_tuple_list_bl, isa_tuple_list_int, isa_tuple_list_str, isa_tuple_list_tup, isa_tuple_list_lst, isa_tuple_list_wls, isa_tuple_list_dic, dIsN_bl, dNotN_bl, dIsN_int, dNotN_int, dIsN_str, dNotN_str, dIsN_tup, dNotN_tup, dIsN_lst, dNotN_lst, dIsN_wls, dNotN_wls, dIsN_dic, dNotN_dic, dIsN_non, dNotN_non, tru_bl, tru_non, tru_int, tru_lst, tru_wls, tru_tup, int_int, back_val', back_own', back_non]
  refine w_num fun _ => ?_
  simp only [Wp_ret, Wp_no, Wp_bnd, Wp_ite, Raw.stay_val, Raw.stay_bor, Wp_m2, Wp_var, Wp_peek, Wp_move, Wp_frz, Raw.frz_own, Raw.frz_val, Raw.frz_lst, Wp_gI, Wp_gD, Wp_g1, Wp_g2I, Raw.dt_val, Raw.dt_own, Raw.dt_bor, Wp_isa, Wp_bool, Wp_tru, Wp_not, Wp_and, Wp_or, Wp_ofB, Wp_if, Wp_andV, Wp_orV, Wp_un, Wp_nil, Wp_cons, Raw.datas_nil, Raw.datas_cons, Raw.vals_nil, Raw.vals_cons, Wp_tup, Wp_lst, Wp_call, Wp_callO, Wp_set, Wp_app, Wp_pop, Wp_rev, Wp_range1, Wp_range2, Wp_err, Wp_erris, Ws_nx, Ws_bk, Ws_ct, Ws_retN, Ws_expr, Ws_ret, Ws_if, Ws_set, Ws_par, Ws_unp, Ws_raise, Ws_raise0, dEq_ii, dNe_ii, dLen_lst, dLen_wls, dLen_tup, ix_lst, ix_wls, ix_tup', enF, gSet, gTupD, gsCons, gsNil, ↓reduceIte, List.getElem?_cons_zero, List.getElem?_cons_succ, List.getElem?_nil, List.set_cons_zero, List.set_cons_succ, List.set_nil, List.length_cons, List.length_nil, List.replicate, List.cons_append, List.nil_append, List.append_nil, List.take, Option.map_some, decide_eq_true_eq, decide_eq_false_iff_not, Bool.not_eq_true', Bool.not_eq_false', Bool.not_not, Bool.not_true, Bool.not_false, true_and, and_true, false_and, and_false, imp_self, implies_true, not_false_eq_true, not_true_eq_false, true_implies, false_implies, Bool.true_eq_false, Bool.false_eq_true, forall_const, Nat.reduceAdd, Nat.reduceSub, Nat.reduceEqDiff, Nat.reduceLeDiff, mulOk_iff, divOk_iff, modOk_iff, powOk_iff, small_iff, isa_int_non, isa_int_bl, isa_int_int, isa_int_str, isa_int_tup, isa_int_lst, isa_int_wls, isa_int_dic, isa_bool_non, isa_bool_bl, isa_bool_int, isa_bool_str, isa_bool_tup, isa_bool_lst, isa_bool_wls, isa_bool_dic, isa_str_non, isa_str_bl, isa_str_int, isa_str_str, isa_str_tup, isa_str_lst, isa_str_wls, isa_str_dic, isa_list_non, isa_list_bl, isa_list_int, isa_list_str, isa_list_tup, isa_list_lst, isa_list_wls, isa_list_dic, isa_tuple_non, isa_tuple_bl, isa_tuple_int, isa_tuple_str, isa_tuple_tup, isa_tuple_lst, isa_tuple_wls, isa_tuple_dic, isa_list_tuple_non, isa_list_tuple_bl, isa_list_tuple_int, isa_list_tuple_str, isa_list_tuple_tup, isa_list_tuple_lst, isa_list_tuple_wls, isa_list_tuple_dic, isa_int_str_non, isa_int_str_bl, isa_int_str_int, isa_int_str_str, isa_int_str_tup, isa_int_str_lst, isa_int_str_wls, isa_int_str_dic, isa_str_int_non, isa_str_int_bl, isa_str_int_int, isa_str_int_str, isa_str_int_tup, isa_str_int_lst, isa_str_int_wls, isa_str_int_dic, isa_tuple_list_non, isa_tuple_list_bl, isa_tuple_list_int, isa_tuple_list_str, isa_tuple_list_tup, isa_tuple_list_lst, isa_tuple_list_wls, isa_tuple_list_dic, dIsN_bl, dNotN_bl, dIsN_int, dNotN_int, dIsN_str, dNotN_str, dIsN_tup, dNotN_tup, dIsN_lst, dNotN_lst, dIsN_wls, dNotN_wls, dIsN_dic, dNotN_dic, dIsN_non, dNotN_non, tru_bl, tru_non, tru_int, tru_lst, tru_wls, tru_tup, int_int, back_val', back_own', back_non]
  refine ⟨fun z => absurd z (by omega), fun _ => hK _ ?_⟩
  simp only [Wp_ret, Wp_no, Wp_bnd, Wp_ite, Raw.stay_val, Raw.stay_bor, Wp_m2, Wp_var, Wp_peek, Wp_move, Wp_frz, Raw.frz_own, Raw.frz_val, Raw.frz_lst, Wp_gI, Wp_gD, Wp_g1, Wp_g2I, Raw.dt_val, Raw.dt_own, Raw.dt_bor, Wp_isa, Wp_bool, Wp_tru, Wp_not, Wp_and, Wp_or, Wp_ofB, Wp_if, Wp_andV, Wp_orV, Wp_un, Wp_nil, Wp_cons, Raw.datas_nil, Raw.datas_cons, Raw.vals_nil, Raw.vals_cons, Wp_tup, Wp_lst, Wp_call, Wp_callO, Wp_set, Wp_app, Wp_pop, Wp_rev, Wp_range1, Wp_range2, Wp_err, Wp_erris, Ws_nx, Ws_bk, Ws_ct, Ws_retN, Ws_expr, Ws_ret, Ws_if, Ws_set, Ws_par, Ws_unp, Ws_raise, Ws_raise0, dEq_ii, dNe_ii, dLen_lst, dLen_wls, dLen_tup, ix_lst, ix_wls, ix_tup', enF, gSet, gTupD, gsCons, gsNil, ↓reduceIte, List.getElem?_cons_zero, List.getElem?_cons_succ, List.getElem?_nil, List.set_cons_zero, List.set_cons_succ, List.set_nil, List.length_cons, List.length_nil, List.replicate, List.cons_append, List.nil_append, List.append_nil, List.take, Option.map_some, decide_eq_true_eq, decide_eq_false_iff_not, Bool.not_eq_true', Bool.not_eq_false', Bool.not_not, Bool.not_true, Bool.not_false, true_and, and_true, false_and, and_false, imp_self, implies_true, not_false_eq_true, not_true_eq_false, true_implies, false_implies, Bool.true_eq_false, Bool.false_eq_true, forall_const, Nat.reduceAdd, Nat.reduceSub, Nat.reduceEqDiff, Nat.reduceLeDiff, mulOk_iff, divOk_iff, modOk_iff, powOk_iff, small_iff, isa_int_non, isa_int_bl, isa_int_int, isa_int_str, isa_int_tup, isa_int_lst, isa_int_wls, isa_int_dic, isa_bool_non, isa_bool_bl, isa_bool_int, isa_bool_str, isa_bool_tup, isa_bool_lst, isa_bool_wls, isa_bool_dic, isa_str_non, isa_str_bl, isa_str_int, isa_str_str, isa_str_tup, isa_str_lst, isa_str_wls, isa_str_dic, isa_list_non, isa_list_bl, isa_list_int, isa_list_str, isa_list_tup, isa_list_lst, isa_list_wls, isa_list_dic, isa_tuple_non, isa_tuple_bl, isa_tuple_int, isa_tuple_str, isa_tuple_tup, isa_tuple_lst, isa_tuple_wls, isa_tuple_dic, isa_list_tuple_non, isa_list_tuple_bl, isa_list_tuple_int, isa_list_tuple_str, isa_list_tuple_tup, isa_list_tuple_lst, isa_list_tuple_wls, isa_list_tuple_dic, isa_int_str_non, isa_int_str_bl, isa_int_str_int, isa_int_str_str, isa_int_str_tup, isa_int_str_lst, isa_int_str_wls, isa_int_str_dic, isa_str_int_non, isa_str_int_bl, isa_str_int_int, isa_str_int_str, isa_str_int_tup, isa_str_int_lst, isa_str_int_wls, isa_str_int_dic, isa_tuple_list_non, isa_tuple_list_bl, isa_tuple_list_int, isa_tuple_list_str, isa_tuple_list_tup, isa_tuple_list_lst, isa_tuple_list_wls, isa_tuple_list_dic, dIsN_bl, dNotN_bl, dIsN_int, dNotN_int, dIsN_str, dNotN_str, dIsN_tup, dNotN_tup, dIsN_lst, dNotN_lst, dIsN_wls, dNotN_wls, dIsN_dic, dNotN_dic, dIsN_non, dNotN_non, tru_bl, tru_non, tru_int, tru_lst, tru_wls, tru_tup, int_int, back_val', back_own', back_non]
  exact q _
def vs (b v : Int) : Int := b * v + (v * (v - 1)).fdiv 2
theorem w_start {b v : Int} (hb : 1 ≤ b) (hb2 : b < 2 ^ 64) (hv : 0 ≤ v) (hv2 : v < 2 ^ 64) (q : ∀ ls, Q (.val (.int (vs b v))) ls) : Wo (m_view_start [.val (.int b), .val (.int v)]) Q E := by
  unfold m_view_start
  refine wo_fn ?_
  unfold b_view_start
  refine ws_seq fun K hK => ?_
  simp only [Wp_ret, Wp_no, Wp_bnd, Wp_ite, Raw.stay_val, Raw.stay_bor, Wp_m2, Wp_var, Wp_peek, Wp_move, Wp_frz, Raw.frz_own, Raw.frz_val, Raw.frz_lst, Wp_gI, Wp_gD, Wp_g1, Wp_g2I, Raw.dt_val, Raw.dt_own, Raw.dt_bor, Wp_isa, Wp_bool, Wp_tru, Wp_not, Wp_and, Wp_or, Wp_ofB, Wp_if, Wp_andV, Wp_orV, Wp_un, Wp_nil, Wp_cons, Raw.datas_nil, Raw.datas_cons, Raw.vals_nil, Raw.vals_cons, Wp_tup, Wp_lst, Wp_call, Wp_callO, Wp_set, Wp_app, Wp_pop, Wp_rev, Wp_range1, Wp_range2, Wp_err, Wp_erris, Ws_nx, Ws_bk, Ws_ct, Ws_retN, Ws_expr, Ws_ret, Ws_if, Ws_set, Ws_par, Ws_unp, Ws_raise, Ws_raise0, dEq_ii, dNe_ii, dLen_lst, dLen_wls, dLen_tup, ix_lst, ix_wls, ix_tup', enF, gSet, gTupD, gsCons, gsNil, ↓reduceIte, List.getElem?_cons_zero, List.getElem?_cons_succ, List.getElem?_nil, List.set_cons_zero, List.set_cons_succ, List.set_nil, List.length_cons, List.length_nil, List.replicate, List.cons_append, List.nil_append, List.append_nil, List.take, Option.map_some, decide_eq_true_eq, decide_eq_false_iff_not, Bool.not_eq_true', Bool.not_eq_false', Bool.not_not, Bool.not_true, Bool.not_false, true_and, and_true, false_and, and_false, imp_self, implies_true, not_false_eq_true, not_true_eq_false, true_implies, false_implies, Bool.true_eq_false, Bool.false_eq_true, forall_const, Nat.reduceAdd, Nat.reduceSub, Nat.reduceEqDiff, Nat.reduceLeDiff, mulOk_iff, divOk_iff, modOk_iff, powOk_iff, small_iff, isa_int_non, isa_int_bl, isa_int_int, isa_int_str, isa_int_tup, isa_int_lst, isa_int_wls, isa_int_dic, isa_bool_non, isa_bool_bl, isa_bool_int, isa_bool_str, isa_bool_tup, isa_bool_lst, isa_bool_wls, isa_bool_dic, isa_str_non, isa_str_bl, isa_str_int, isa_str_str, isa_str_tup, isa_str_lst, isa_str_wls, isa_str_dic, isa_list_non, isa_list_bl, isa_list_int, isa_list_str, isa_list_tup, isa_list_lst, isa_list_wls, isa_list_dic, isa_tuple_non, isa_tuple_bl, isa_tuple_int, isa_tuple_str, isa_tuple_tup, isa_tuple_lst, isa_tuple_wls, isa_tuple_dic, isa_list_tuple_non, isa_list_tuple_bl, isa_list_tuple_int, isa_list_tuple_str, isa_list_tuple_tup, isa_list_tuple_lst, isa_list_tuple_wls, isa_list_tuple_dic, isa_int_str_non, isa_int_str_bl, isa_int_str_int, isa_int_str_str, isa_int_str_tup, isa_int_str_lst, isa_int_str_wls, isa_int_str_dic, isa_str_int_non, isa_str_int_bl, isa_str_int_int, isa_str_int_str, isa_str_int_tup, isa_str_int_lst, isa_str_int_wls, isa_str_int_dic, isa_tuple_list_non, isa_tuple_list_bl, isa_tuple_list_int, isa_tuple_list_str, isa_tuple_list_tup, isa_tuple_list_lst, isa_tuple_list_wls, isa_tuple_list_dic, dIsN_bl, dNotN_bl, dIsN_int, dNotN_int, dIsN_str, dNotN_str, dIsN_tup, dNotN_tup, dIsN_lst, dNotN_lst, dIsN_wls, dNotN_wls, dIsN_dic, dNotN_dic, dIsN_non, dNotN_non, tru_bl, tru_non, tru_int, tru_lst, tru_wls, tru_tup, int_int, back_val', back_own', back_non]
  refine w_check hb fun _ => hK _ ?_
  refine ws_seq fun K2 hK2 => ?_
  simp only [Wp_ret, Wp_no, Wp_bnd, Wp_ite, Raw.stay_val, Raw.stay_bor, Wp_m2, Wp_var, Wp_peek, Wp_move, Wp_frz, Raw.frz_own, Raw.frz_val, Raw.frz_lst, Wp_gI, Wp_gD, Wp_g1, Wp_g2I, Raw.dt_val, Raw.dt_own, Raw.dt_bor, Wp_isa, Wp_bool, Wp_tru, Wp_not, Wp_and, Wp_or, Wp_ofB, Wp_if, Wp_andV, Wp_orV, Wp_un, Wp_nil, Wp_cons, Raw.datas_nil, Raw.datas_cons, Raw.vals_nil, Raw.vals_cons, Wp_tup, Wp_lst, Wp_call, Wp_callO, Wp_set, Wp_app, Wp_pop, Wp_rev, Wp_range1, Wp_range2, Wp_err, Wp_erris, Ws_nx, Ws_bk, Ws_ct, Ws_retN, Ws_expr, Ws_ret, Ws_if, Ws_set, Ws_par, Ws_unp, Ws_raise, Ws_raise0, dEq_ii, dNe_ii, dLen_lst, dLen_wls, dLen_tup, ix_lst, ix_wls, ix_tup', enF, gSet, gTupD, gsCons, gsNil, ↓reduceIte, List.getElem?_cons_zero, List.getElem?_cons_succ, List.getElem?_nil, List.set_cons_zero, List.set_cons_succ, List.set_nil, List.length_cons, List.length_nil, List.replicate, List.cons_append, List.nil_append, List.append_nil, List.take, Option.map_some, decide_eq_true_eq, decide_eq_false_iff_not, Bool.not_eq_true', Bool.not_eq_false', Bool.not_not, Bool.not_true, Bool.not_false, true_and, and_true, false_and, and_false, imp_self, implies_true, not_false_eq_true, not_true_eq_false, true_implies, false_implies, Bool.true_eq_false, Bool.false_eq_true, forall_const, Nat.reduceAdd, Nat.reduceSub, Nat.reduceEqDiff, Nat.reduceLeDiff, mulOk_iff, divOk_iff, modOk_iff, powOk_iff, small_iff, isa_int_non, isa_int_bl, isa_int_int, isa_int_str, isa_int_tup, isa_int_lst, isa_int_wls, isa_int_dic, isa_bool_non, isa_bool_bl, isa_bool_int, isa_bool_str, isa_bool_tup, isa_bool_lst, isa_bool_wls, isa_bool_dic, isa_str_non, isa_str_bl, isa_str_int, isa_str_str, isa_str_tup, isa_str_lst, isa_str_wls, isa_str_dic, isa_list_non, isa_list_bl, isa_list_int, isa_list_str, isa_list_tup, isa_list_lst, isa_list_wls, isa_list_dic, isa_tuple_non, isa_tuple_bl, isa_tuple_int, isa_tuple_str, isa_tuple_tup, isa_tuple_lst, isa_tuple_wls, isa_tuple_dic, isa_list_tuple_non, isa_list_tuple_bl, isa_list_tuple_int, isa_list_tuple_str, isa_list_tuple_tup, isa_list_tuple_lst, isa_list_tuple_wls, isa_list_tuple_dic, isa_int_str_non, isa_int_str_bl, isa_int_str_int, isa_int_str_str, isa_int_str_tup, isa_int_str_lst, isa_int_str_wls, isa_int_str_dic, isa_str_int_non, isa_str_int_bl, isa_str_int_int, isa_str_int_str, isa_str_int_tup, isa_str_int_lst, isa_str_int_wls, isa_str_int_dic, isa_tuple_list_non, isa_tuple_list_bl, isa_tuple_list_int, isa_tuple_list_str, isa_tuple_list_tup, isa_tuple_list_lst, isa_tuple_list_wls, isa_tuple_list_dic, dIsN_bl, dNotN_bl, dIsN_int, dNotN_int, dIsN_str, dNotN_str, dIsN_tup, dNotN_tup, dIsN_lst, dNotN_lst, dIsN_wls, dNotN_wls, dIsN_dic, dNotN_dic, dIsN_non, dNotN_non, tru_bl, tru_non, tru_int, tru_lst, tru_wls, tru_tup, int_int, back_val', back_own', back_non]
  refine w_check hv fun _ => hK2 _ ?_
  simp only [Wp_ret, Wp_no, Wp_bnd, Wp_ite, Raw.stay_val, Raw.stay_bor, Wp_m2, Wp_var, Wp_peek, Wp_move, Wp_frz, Raw.frz_own, Raw.frz_val, Raw.frz_lst, Wp_gI, Wp_gD, Wp_g1, Wp_g2I, Raw.dt_val, Raw.dt_own, Raw.dt_bor, Wp_isa, Wp_bool, Wp_tru, Wp_not, Wp_and, Wp_or, Wp_ofB, Wp_if, Wp_andV, Wp_orV, Wp_un, Wp_nil, Wp_cons, Raw.datas_nil, Raw.datas_cons, Raw.vals_nil, Raw.vals_cons, Wp_tup, Wp_lst, Wp_call, Wp_callO, Wp_set, Wp_app, Wp_pop, Wp_rev, Wp_range1, Wp_range2, Wp_err, Wp_erris, Ws_nx, Ws_bk, Ws_ct, Ws_retN, Ws_expr, Ws_ret, Ws_if, Ws_set, Ws_par, Ws_unp, Ws_raise, Ws_raise0, dEq_ii, dNe_ii, dLen_lst, dLen_wls, dLen_tup, ix_lst, ix_wls, ix_tup', enF, gSet, gTupD, gsCons, gsNil, ↓reduceIte, List.getElem?_cons_zero, List.getElem?_cons_succ, List.getElem?_nil, List.set_cons_zero, List.set_cons_succ, List.set_nil, List.length_cons, List.length_nil, List.replicate, List.cons_append, List.nil_append, List.append_nil, List.take, Option.map_some, decide_eq_true_eq, decide_eq_false_iff_not, Bool.not_eq_true', Bool.not_eq_false', Bool.not_not, Bool.not_true, Bool.not_false, true_and, and_true, false_and, and_false, imp_self, implies_true, not_false_eq_true, not_true_eq_false, true_implies, false_implies, Bool.true_eq_false, Bool.false_eq_true, forall_const, Nat.reduceAdd, Nat.reduceSub, Nat.reduceEqDiff, Nat.reduceLeDiff, mulOk_iff, divOk_iff, modOk_iff, powOk_iff, small_iff, isa_int_non, isa_int_bl, isa_int_int, isa_int_str, isa_int_tup, isa_int_lst, isa_int_wls, isa_int_dic, isa_bool_non, isa_bool_bl, isa_bool_int, isa_bool_str, isa_bool_tup, isa_bool_lst, isa_bool_wls, isa_bool_dic, isa_str_non, isa_str_bl, isa_str_int, isa_str_str, isa_str_tup, isa_str_lst, isa_str_wls, isa_str_dic, isa_list_non, isa_list_bl, isa_list_int, isa_list_str, isa_list_tup, isa_list_lst, isa_list_wls, isa_list_dic, isa_tuple_non, isa_tuple_bl, isa_tuple_int, isa_tuple_str, isa_tuple_tup, isa_tuple_lst, isa_tuple_wls, isa_tuple_dic, isa_list_tuple_non, isa_list_tuple_bl, isa_list_tuple_int, isa_list_tuple_str, isa_list_tuple_tup, isa_list_tuple_lst, isa_list_tuple_wls, isa_list_tuple_dic, isa_int_str_non, isa_int_str_bl, isa_int_str_int, isa_int_str_str, isa_int_str_tup, isa_int_str_lst, isa_int_str_wls, isa_int_str_dic, isa_str_int_non, isa_str_int_bl, isa_str_int_int, isa_str_int_str, isa_str_int_tup, isa_str_int_lst, isa_str_int_wls, isa_str_int_dic, isa_tuple_list_non, isa_tuple_list_bl, isa_tuple_list_int, isa_tuple_list_str, isa_tuple_list_tup, isa_tuple_list_lst, isa_tuple_list_wls, isa_tuple_list_dic, dIsN_bl, dNotN_bl, dIsN_int, dNotN_int, dIsN_str, dNotN_str, dIsN_tup, dNotN_tup, dIsN_lst, dNotN_lst, dIsN_wls, dNotN_wls, dIsN_dic, dNotN_dic, dIsN_non, dNotN_non, tru_bl, tru_non, tru_int, tru_lst, tru_wls, tru_tup, int_int, back_val', back_own', back_non]
  exact ⟨by omega, by omega, by decide, q _⟩
theorem vs_succ (b v : Int) : vs b (v + 1) = vs b v + b + v := by
  unfold vs
  rw [fdiv_pos (by decide), fdiv_pos (by decide)]
  have e : (v + 1) * (v + 1 - 1) = v * (v - 1) + 2 * v := by
    rw [Int.add_sub_cancel, Int.add_mul, Int.mul_sub]; omega
  rw [e, Int.mul_add]
  omega
theorem vs_zero (b : Int) : vs b 0 = 0 := by unfold vs; simp
theorem vs_mono {b : Int} (hb : 1 ≤ b) {v w : Int} (hv : 0 ≤ v) (h : v < w) : vs b v + (w - v) ≤ vs b w := by
  obtain ⟨k, rfl⟩ : ∃ k : Nat, w = v + k := ⟨(w - v).toNat, by omega⟩
  induction k with
  | zero => omega
  | succ k ih =>
    have e := vs_succ b (v + k)
    rw [show v + (k + 1 : Nat) = v + k + 1 by omega, e]
    by_cases hk : k = 0
    · subst hk; simp; omega
    · have := ih (by omega)
      omega
theorem vs_le {b : Int} (hb : 1 ≤ b) {v : Int} (hv : 0 ≤ v) : v ≤ vs b v := by
  by_cases h : v = 0
  · subst h; rw [vs_zero]; exact Int.le_refl _
  · have := vs_mono hb (Int.le_refl 0) (show 0 < v by omega)
    rw [vs_zero] at this; omega
theorem vs_inj {b c r r' : Int} (hb : 1 ≤ b) (h0 : 0 ≤ r) (h0' : 0 ≤ r') (h1 : vs b r ≤ c) (h2 : c < vs b (r + 1)) (h1' : vs b r' ≤ c) (h2' : c < vs b (r' + 1)) : r = r' := by
  rcases Int.lt_trichotomy r r' with h | h | h
  · rcases Int.lt_or_eq_of_le (show r + 1 ≤ r' by omega) with z | z
    · have := vs_mono hb (show 0 ≤ r + 1 by omega) z; omega
    · rw [z] at h2; omega
  · exact h
  · rcases Int.lt_or_eq_of_le (show r' + 1 ≤ r by omega) with z | z
    · have := vs_mono hb (show 0 ≤ r' + 1 by omega) z; omega
    · rw [z] at h2'; omega
theorem p2 (k : Nat) : (2 : Int) ^ (k + 1) = 2 * 2 ^ k := by rw [Int.pow_succ]; omega
theorem p2pos (k : Nat) : (1 : Int) ≤ 2 ^ k := by
  induction k with
  | zero => decide
  | succ k ih => rw [p2]; omega
theorem p2le {j k : Nat} (h : j ≤ k) : (2 : Int) ^ j ≤ 2 ^ k := by
  induction h with
  | refl => exact Int.le_refl _
  | step _ ih => have := p2pos ‹_›; rw [p2]; omega
theorem w_at {b c : Int} (hb : 1 ≤ b) (hb2 : b < 2 ^ 40) (hc : 0 ≤ c) (hc2 : c < 2 ^ 40) (q : ∀ r ls, 0 ≤ r → vs b r ≤ c → c < vs b (r + 1) → Q (.val (.int r)) ls) : Wo (m_view_at [.val (.int b), .val (.int c)]) Q E := by
  unfold m_view_at
  refine wo_fn ?_
  unfold b_view_at
  refine ws_seq fun K hK => ?_
  simp only [Wp_ret, Wp_no, Wp_bnd, Wp_ite, Raw.stay_val, Raw.stay_bor, Wp_m2, Wp_var, Wp_peek, Wp_move, Wp_frz, Raw.frz_own, Raw.frz_val, Raw.frz_lst, Wp_gI, Wp_gD, Wp_g1, Wp_g2I, Raw.dt_val, Raw.dt_own, Raw.dt_bor, Wp_isa, Wp_bool, Wp_tru, Wp_not, Wp_and, Wp_or, Wp_ofB, Wp_if, Wp_andV, Wp_orV, Wp_un, Wp_nil, Wp_cons, Raw.datas_nil, Raw.datas_cons, Raw.vals_nil, Raw.vals_cons, Wp_tup, Wp_lst, Wp_call, Wp_callO, Wp_set, Wp_app, Wp_pop, Wp_rev, Wp_range1, Wp_range2, Wp_err, Wp_erris, Ws_nx, Ws_bk, Ws_ct, Ws_retN, Ws_expr, Ws_ret, Ws_if, Ws_set, Ws_par, Ws_unp, Ws_raise, Ws_raise0, dEq_ii, dNe_ii, dLen_lst, dLen_wls, dLen_tup, ix_lst, ix_wls, ix_tup', enF, gSet, gTupD, gsCons, gsNil, ↓reduceIte, List.getElem?_cons_zero, List.getElem?_cons_succ, List.getElem?_nil, List.set_cons_zero, List.set_cons_succ, List.set_nil, List.length_cons, List.length_nil, List.replicate, List.cons_append, List.nil_append, List.append_nil, List.take, Option.map_some, decide_eq_true_eq, decide_eq_false_iff_not, Bool.not_eq_true', Bool.not_eq_false', Bool.not_not, Bool.not_true, Bool.not_false, true_and, and_true, false_and, and_false, imp_self, implies_true, not_false_eq_true, not_true_eq_false, true_implies, false_implies, Bool.true_eq_false, Bool.false_eq_true, forall_const, Nat.reduceAdd, Nat.reduceSub, Nat.reduceEqDiff, Nat.reduceLeDiff, mulOk_iff, divOk_iff, modOk_iff, powOk_iff, small_iff, isa_int_non, isa_int_bl, isa_int_int, isa_int_str, isa_int_tup, isa_int_lst, isa_int_wls, isa_int_dic, isa_bool_non, isa_bool_bl, isa_bool_int, isa_bool_str, isa_bool_tup, isa_bool_lst, isa_bool_wls, isa_bool_dic, isa_str_non, isa_str_bl, isa_str_int, isa_str_str, isa_str_tup, isa_str_lst, isa_str_wls, isa_str_dic, isa_list_non, isa_list_bl, isa_list_int, isa_list_str, isa_list_tup, isa_list_lst, isa_list_wls, isa_list_dic, isa_tuple_non, isa_tuple_bl, isa_tuple_int, isa_tuple_str, isa_tuple_tup, isa_tuple_lst, isa_tuple_wls, isa_tuple_dic, isa_list_tuple_non, isa_list_tuple_bl, isa_list_tuple_int, isa_list_tuple_str, isa_list_tuple_tup, isa_list_tuple_lst, isa_list_tuple_wls, isa_list_tuple_dic, isa_int_str_non, isa_int_str_bl, isa_int_str_int, isa_int_str_str, isa_int_str_tup, isa_int_str_lst, isa_int_str_wls, isa_int_str_dic, isa_str_int_non, isa_str_int_bl, isa_str_int_int, isa_str_int_str, isa_str_int_tup, isa_str_int_lst, isa_str_int_wls, isa_str_int_dic, isa_tuple_list_non, isa_tuple_list_bl, isa_tuple_list_int, isa_tuple_list_str, isa_tuple_list_tup, isa_tuple_list_lst, isa_tuple_list_wls, isa_tuple_list_dic, dIsN_bl, dNotN_bl, dIsN_int, dNotN_int, dIsN_str, dNotN_str, dIsN_tup, dNotN_tup, dIsN_lst, dNotN_lst, dIsN_wls, dNotN_wls, dIsN_dic, dNotN_dic, dIsN_non, dNotN_non, tru_bl, tru_non, tru_int, tru_lst, tru_wls, tru_tup, int_int, back_val', back_own', back_non]
  refine w_check hb fun _ => hK _ ?_
  refine ws_seq fun K2 hK2 => ?_
  simp only [Wp_ret, Wp_no, Wp_bnd, Wp_ite, Raw.stay_val, Raw.stay_bor, Wp_m2, Wp_var, Wp_peek, Wp_move, Wp_frz, Raw.frz_own, Raw.frz_val, Raw.frz_lst, Wp_gI, Wp_gD, Wp_g1, Wp_g2I, Raw.dt_val, Raw.dt_own, Raw.dt_bor, Wp_isa, Wp_bool, Wp_tru, Wp_not, Wp_and, Wp_or, Wp_ofB, Wp_if, Wp_andV, Wp_orV, Wp_un, Wp_nil, Wp_cons, Raw.datas_nil, Raw.datas_cons, Raw.vals_nil, Raw.vals_cons, Wp_tup, Wp_lst, Wp_call, Wp_callO, Wp_set, Wp_app, Wp_pop, Wp_rev, Wp_range1, Wp_range2, Wp_err, Wp_erris, Ws_nx, Ws_bk, Ws_ct, Ws_retN, Ws_expr, Ws_ret, Ws_if, Ws_set, Ws_par, Ws_unp, Ws_raise, Ws_raise0, dEq_ii, dNe_ii, dLen_lst, dLen_wls, dLen_tup, ix_lst, ix_wls, ix_tup', enF, gSet, gTupD, gsCons, gsNil, ↓reduceIte, List.getElem?_cons_zero, List.getElem?_cons_succ, List.getElem?_nil, List.set_cons_zero, List.set_cons_succ, List.set_nil, List.length_cons, List.length_nil, List.replicate, List.cons_append, List.nil_append, List.append_nil, List.take, Option.map_some, decide_eq_true_eq, decide_eq_false_iff_not, Bool.not_eq_true', Bool.not_eq_false', Bool.not_not, Bool.not_true, Bool.not_false, true_and, and_true, false_and, and_false, imp_self, implies_true, not_false_eq_true, not_true_eq_false, true_implies, false_implies, Bool.true_eq_false, Bool.false_eq_true, forall_const, Nat.reduceAdd, Nat.reduceSub, Nat.reduceEqDiff, Nat.reduceLeDiff, mulOk_iff, divOk_iff, modOk_iff, powOk_iff, small_iff, isa_int_non, isa_int_bl, isa_int_int, isa_int_str, isa_int_tup, isa_int_lst, isa_int_wls, isa_int_dic, isa_bool_non, isa_bool_bl, isa_bool_int, isa_bool_str, isa_bool_tup, isa_bool_lst, isa_bool_wls, isa_bool_dic, isa_str_non, isa_str_bl, isa_str_int, isa_str_str, isa_str_tup, isa_str_lst, isa_str_wls, isa_str_dic, isa_list_non, isa_list_bl, isa_list_int, isa_list_str, isa_list_tup, isa_list_lst, isa_list_wls, isa_list_dic, isa_tuple_non, isa_tuple_bl, isa_tuple_int, isa_tuple_str, isa_tuple_tup, isa_tuple_lst, isa_tuple_wls, isa_tuple_dic, isa_list_tuple_non, isa_list_tuple_bl, isa_list_tuple_int, isa_list_tuple_str, isa_list_tuple_tup, isa_list_tuple_lst, isa_list_tuple_wls, isa_list_tuple_dic, isa_int_str_non, isa_int_str_bl, isa_int_str_int, isa_int_str_str, isa_int_str_tup, isa_int_str_lst, isa_int_str_wls, isa_int_str_dic, isa_str_int_non, isa_str_int_bl, isa_str_int_int, isa_str_int_str, isa_str_int_tup, isa_str_int_lst, isa_str_int_wls, isa_str_int_dic, isa_tuple_list_non, isa_tuple_list_bl, isa_tuple_list_int, isa_tuple_list_str, isa_tuple_list_tup, isa_tuple_list_lst, isa_tuple_list_wls, isa_tuple_list_dic, dIsN_bl, dNotN_bl, dIsN_int, dNotN_int, dIsN_str, dNotN_str, dIsN_tup, dNotN_tup, dIsN_lst, dNotN_lst, dIsN_wls, dNotN_wls, dIsN_dic, dNotN_dic, dIsN_non, dNotN_non, tru_bl, tru_non, tru_int, tru_lst, tru_wls, tru_tup, int_int, back_val', back_own', back_non]
  refine w_check hc fun _ => hK2 _ ?_
  refine ws_seq fun K3 hK3 => ?_
  simp only [Wp_ret, Wp_no, Wp_bnd, Wp_ite, Raw.stay_val, Raw.stay_bor, Wp_m2, Wp_var, Wp_peek, Wp_move, Wp_frz, Raw.frz_own, Raw.frz_val, Raw.frz_lst, Wp_gI, Wp_gD, Wp_g1, Wp_g2I, Raw.dt_val, Raw.dt_own, Raw.dt_bor, Wp_isa, Wp_bool, Wp_tru, Wp_not, Wp_and, Wp_or, Wp_ofB, Wp_if, Wp_andV, Wp_orV, Wp_un, Wp_nil, Wp_cons, Raw.datas_nil, Raw.datas_cons, Raw.vals_nil, Raw.vals_cons, Wp_tup, Wp_lst, Wp_call, Wp_callO, Wp_set, Wp_app, Wp_pop, Wp_rev, Wp_range1, Wp_range2, Wp_err, Wp_erris, Ws_nx, Ws_bk, Ws_ct, Ws_retN, Ws_expr, Ws_ret, Ws_if, Ws_set, Ws_par, Ws_unp, Ws_raise, Ws_raise0, dEq_ii, dNe_ii, dLen_lst, dLen_wls, dLen_tup, ix_lst, ix_wls, ix_tup', enF, gSet, gTupD, gsCons, gsNil, ↓reduceIte, List.getElem?_cons_zero, List.getElem?_cons_succ, List.getElem?_nil, List.set_cons_zero, List.set_cons_succ, List.set_nil, List.length_cons, List.length_nil, List.replicate, List.cons_append, List.nil_append, List.append_nil, List.take, Option.map_some, decide_eq_true_eq, decide_eq_false_iff_not, Bool.not_eq_true', Bool.not_eq_false', Bool.not_not, Bool.not_true, Bool.not_false, true_and, and_true, false_and, and_false, imp_self, implies_true, not_false_eq_true, not_true_eq_false, true_implies, false_implies, Bool.true_eq_false, Bool.false_eq_true, forall_const, Nat.reduceAdd, Nat.reduceSub, Nat.reduceEqDiff, Nat.reduceLeDiff, mulOk_iff, divOk_iff, modOk_iff, powOk_iff, small_iff, isa_int_non, isa_int_bl, isa_int_int, isa_int_str, isa_int_tup, isa_int_lst, isa_int_wls, isa_int_dic, isa_bool_non, isa_bool_bl, isa_bool_int, isa_bool_str, isa_bool_tup, isa_bool_lst, isa_bool_wls, isa_bool_dic, isa_str_non, isa_str_bl, isa_str_int, isa_str_str, isa_str_tup, isa_str_lst, isa_str_wls, isa_str_dic, isa_list_non, isa_list_bl, isa_list_int, isa_list_str, isa_list_tup, isa_list_lst, isa_list_wls, isa_list_dic, isa_tuple_non, isa_tuple_bl, isa_tuple_int, isa_tuple_str, isa_tuple_tup, isa_tuple_lst, isa_tuple_wls, isa_tuple_dic, isa_list_tuple_non, isa_list_tuple_bl, isa_list_tuple_int, isa_list_tuple_str, isa_list_tuple_tup, isa_list_tuple_lst, isa_list_tuple_wls, isa_list_tuple_dic, isa_int_str_non, isa_int_str_bl, isa_int_str_int, isa_int_str_str, isa_int_str_tup, isa_int_str_lst, isa_int_str_wls, isa_int_str_dic, isa_str_int_non, isa_str_int_bl, isa_str_int_int, isa_str_int_str, isa_str_int_tup, isa_str_int_lst, isa_str_int_wls, isa_str_int_dic, isa_tuple_list_non, isa_tuple_list_bl, isa_tuple_list_int, isa_tuple_list_str, isa_tuple_list_tup, isa_tuple_list_lst, isa_tuple_list_wls, isa_tuple_list_dic, dIsN_bl, dNotN_bl, dIsN_int, dNotN_int, dIsN_str, dNotN_str, dIsN_tup, dNotN_tup, dIsN_lst, dNotN_lst, dIsN_wls, dNotN_wls, dIsN_dic, dNotN_dic, dIsN_non, dNotN_non, tru_bl, tru_non, tru_int, tru_lst, tru_wls, tru_tup, int_int, back_val', back_own', back_non]
  refine hK3 _ ?_
  refine ws_seq fun K4 hK4 => ?_
  refine ws_while (k0 := 40) (fun m ρ => ∃ (k : Nat) (lo : Int), m + k = 40 ∧ ρ = [.val (.int b), .val (.int c), .val (.int lo), .val (.int (2 ^ k)), .non] ∧ 0 ≤ lo ∧ vs b lo ≤ c ∧ ∃ j : Nat, j ≤ k ∧ (2 : Int) ^ k - lo = 2 ^ j) ⟨0, 0, rfl, rfl, Int.le_refl _, by rw [vs_zero]; exact hc, 0, Nat.le_refl _, rfl⟩ (by decide) ?_
  · rintro m ρ hm ⟨k, lo, e, rfl, h0, h1, j, hj, h2⟩
    have hk : (2 : Int) ^ k ≤ 2 ^ 40 := p2le (by omega)
    have hk1 := p2pos k
    simp only [Wp_ret, Wp_no, Wp_bnd, Wp_ite, Raw.stay_val, Raw.stay_bor, Wp_m2, Wp_var, Wp_peek, Wp_move, Wp_frz, Raw.frz_own, Raw.frz_val, Raw.frz_lst, Wp_gI, Wp_gD, Wp_g1, Wp_g2I, Raw.dt_val, Raw.dt_own, Raw.dt_bor, Wp_isa, Wp_bool, Wp_tru, Wp_not, Wp_and, Wp_or, Wp_ofB, Wp_if, Wp_andV, Wp_orV, Wp_un, Wp_nil, Wp_cons, Raw.datas_nil, Raw.datas_cons, Raw.vals_nil, Raw.vals_cons, Wp_tup, Wp_lst, Wp_call, Wp_callO, Wp_set, Wp_app, Wp_pop, Wp_rev, Wp_range1, Wp_range2, Wp_err, Wp_erris, Ws_nx, Ws_bk, Ws_ct, Ws_retN, Ws_expr, Ws_ret, Ws_if, Ws_set, Ws_par, Ws_unp, Ws_raise, Ws_raise0, dEq_ii, dNe_ii, dLen_lst, dLen_wls, dLen_tup, ix_lst, ix_wls, ix_tup', enF, gSet, gTupD, gsCons, gsNil, ↓reduceIte, List.getElem?_cons_zero, List.getElem?_cons_succ, List.getElem?_nil, List.set_cons_zero, List.set_cons_succ, List.set_nil, List.length_cons, List.length_nil, List.replicate, List.cons_append, List.nil_append, List.append_nil, List.take, Option.map_some, decide_eq_true_eq, decide_eq_false_iff_not, Bool.not_eq_true', Bool.not_eq_false', Bool.not_not, Bool.not_true, Bool.not_false, true_and, and_true, false_and, and_false, imp_self, implies_true, not_false_eq_true, not_true_eq_false, true_implies, false_implies, Bool.true_eq_false, Bool.false_eq_true, forall_const, Nat.reduceAdd, Nat.reduceSub, Nat.reduceEqDiff, Nat.reduceLeDiff, mulOk_iff, divOk_iff, modOk_iff, powOk_iff, small_iff, isa_int_non, isa_int_bl, isa_int_int, isa_int_str, isa_int_tup, isa_int_lst, isa_int_wls, isa_int_dic, isa_bool_non, isa_bool_bl, isa_bool_int, isa_bool_str, isa_bool_tup, isa_bool_lst, isa_bool_wls, isa_bool_dic, isa_str_non, isa_str_bl, isa_str_int, isa_str_str, isa_str_tup, isa_str_lst, isa_str_wls, isa_str_dic, isa_list_non, isa_list_bl, isa_list_int, isa_list_str, isa_list_tup, isa_list_lst, isa_list_wls, isa_list_dic, isa_tuple_non, isa_tuple_bl, isa_tuple_int, isa_tuple_str, isa_tuple_tup, isa_tuple_lst, isa_tuple_wls, isa_tuple_dic, isa_list_tuple_non, isa_list_tuple_bl, isa_list_tuple_int, isa_list_tuple_str, isa_list_tuple_tup, isa_list_tuple_lst, isa_list_tuple_wls, isa_list_tuple_dic, isa_int_str_non, isa_int_str_bl, isa_int_str_int, isa_int_str_str, isa_int_str_tup, isa_int_str_lst, isa_int_str_wls, isa_int_str_dic, isa_str_int_non, isa_str_int_bl, isa_str_int_int, isa_str_int_str, isa_str_int_tup, isa_str_int_lst, isa_str_int_wls, isa_str_int_dic, isa_tuple_list_non, isa_tuple_list_bl, isa_tuple_list_int, isa_tuple_list_str, isa_tuple_list_tup, isa_tuple_list_lst, isa_tuple_list_wls, isa_tuple_list_dic, dIsN_bl, dNotN_bl, dIsN_int, dNotN_int, dIsN_str, dNotN_str, dIsN_tup, dNotN_tup, dIsN_lst, dNotN_lst, dIsN_wls, dNotN_wls, dIsN_dic, dNotN_dic, dIsN_non, dNotN_non, tru_bl, tru_non, tru_int, tru_lst, tru_wls, tru_tup, int_int, back_val', back_own', back_non]
    refine w_start hb (by omega) (by omega) (by omega) fun _ => ?_
    simp only [Wp_ret, Wp_no, Wp_bnd, Wp_ite, Raw.stay_val, Raw.stay_bor, Wp_m2, Wp_var, Wp_peek, Wp_move, Wp_frz, Raw.frz_own, Raw.frz_val, Raw.frz_lst, Wp_gI, Wp_gD, Wp_g1, Wp_g2I, Raw.dt_val, Raw.dt_own, Raw.dt_bor, Wp_isa, Wp_bool, Wp_tru, Wp_not, Wp_and, Wp_or, Wp_ofB, Wp_if, Wp_andV, Wp_orV, Wp_un, Wp_nil, Wp_cons, Raw.datas_nil, Raw.datas_cons, Raw.vals_nil, Raw.vals_cons, Wp_tup, Wp_lst, Wp_call, Wp_callO, Wp_set, Wp_app, Wp_pop, Wp_rev, Wp_range1, Wp_range2, Wp_err, Wp_erris, Ws_nx, Ws_bk, Ws_ct, Ws_retN, Ws_expr, Ws_ret, Ws_if, Ws_set, Ws_par, Ws_unp, Ws_raise, Ws_raise0, dEq_ii, dNe_ii, dLen_lst, dLen_wls, dLen_tup, ix_lst, ix_wls, ix_tup', enF, gSet, gTupD, gsCons, gsNil, ↓reduceIte, List.getElem?_cons_zero, List.getElem?_cons_succ, List.getElem?_nil, List.set_cons_zero, List.set_cons_succ, List.set_nil, List.length_cons, List.length_nil, List.replicate, List.cons_append, List.nil_append, List.append_nil, List.take, Option.map_some, decide_eq_true_eq, decide_eq_false_iff_not, Bool.not_eq_true', Bool.not_eq_false', Bool.not_not, Bool.not_true, Bool.not_false, true_and, and_true, false_and, and_false, imp_self, implies_true, not_false_eq_true, not_true_eq_false, true_implies, false_implies, Bool.true_eq_false, Bool.false_eq_true, forall_const, Nat.reduceAdd, Nat.reduceSub, Nat.reduceEqDiff, Nat.reduceLeDiff, mulOk_iff, divOk_iff, modOk_iff, powOk_iff, small_iff, isa_int_non, isa_int_bl, isa_int_int, isa_int_str, isa_int_tup, isa_int_lst, isa_int_wls, isa_int_dic, isa_bool_non, isa_bool_bl, isa_bool_int, isa_bool_str, isa_bool_tup, isa_bool_lst, isa_bool_wls, isa_bool_dic, isa_str_non, isa_str_bl, isa_str_int, isa_str_str, isa_str_tup, isa_str_lst, isa_str_wls, isa_str_dic, isa_list_non, isa_list_bl, isa_list_int, isa_list_str, isa_list_tup, isa_list_lst, isa_list_wls, isa_list_dic, isa_tuple_non, isa_tuple_bl, isa_tuple_int, isa_tuple_str, isa_tuple_tup, isa_tuple_lst, isa_tuple_wls, isa_tuple_dic, isa_list_tuple_non, isa_list_tuple_bl, isa_list_tuple_int, isa_list_tuple_str, isa_list_tuple_tup, isa_list_tuple_lst, isa_list_tuple_wls, isa_list_tuple_dic, isa_int_str_non, isa_int_str_bl, isa_int_str_int, isa_int_str_str, isa_int_str_tup, isa_int_str_lst, isa_int_str_wls, isa_int_str_dic, isa_str_int_non, isa_str_int_bl, isa_str_int_int, isa_str_int_str, isa_str_int_tup, isa_str_int_lst, isa_str_int_wls, isa_str_int_dic, isa_tuple_list_non, isa_tuple_list_bl, isa_tuple_list_int, isa_tuple_list_str, isa_tuple_list_tup, isa_tuple_list_lst, isa_tuple_list_wls, isa_tuple_list_dic, dIsN_bl, dNotN_bl, dIsN_int, dNotN_int, dIsN_str, dNotN_str, dIsN_tup, dNotN_tup, dIsN_lst, dNotN_lst, dIsN_wls, dNotN_wls, dIsN_dic, dNotN_dic, dIsN_non, dNotN_non, tru_bl, tru_non, tru_int, tru_lst, tru_wls, tru_tup, int_int, back_val', back_own', back_non]
    refine ⟨fun z => ?_, fun z => hK4 _ ?_⟩
    · have hlt : k < 40 := by
        by_cases hk2 : k < 40
        · exact hk2
        · have : k = 40 := by omega
          subst this
          have := vs_le hb (show (0 : Int) ≤ 2 ^ 40 by decide)
          omega
      refine ⟨.inl ⟨by decide, by decide⟩, m - 1, by omega, k + 1, 2 ^ k, by omega, ?_, by omega, z, k, by omega, ?_⟩
      · rw [p2]
      · rw [p2]; omega
    · refine ws_seq fun K5 hK5 => ?_
      refine ws_while (k0 := j) (fun i ρ => ∃ (lo : Int) (x : L), ρ = [.val (.int b), .val (.int c), .val (.int lo), .val (.int (lo + 2 ^ i)), x] ∧ 0 ≤ lo ∧ lo + 2 ^ i ≤ 2 ^ 40 ∧ vs b lo ≤ c ∧ c < vs b (lo + 2 ^ i)) ⟨lo, .non, by rw [show lo + 2 ^ j = 2 ^ k by omega], h0, by omega, h1, by rw [show lo + 2 ^ j = 2 ^ k by omega]; omega⟩ (by omega) ?_
      rintro i ρ hi ⟨lo, x, rfl, g0, g1, g2, g3⟩
      have hi1 : (2 : Int) ^ i ≤ 2 ^ 40 := p2le (by omega)
      have hi0 := p2pos i
      simp only [Wp_ret, Wp_no, Wp_bnd, Wp_ite, Raw.stay_val, Raw.stay_bor, Wp_m2, Wp_var, Wp_peek, Wp_move, Wp_frz, Raw.frz_own, Raw.frz_val, Raw.frz_lst, Wp_gI, Wp_gD, Wp_g1, Wp_g2I, Raw.dt_val, Raw.dt_own, Raw.dt_bor, Wp_isa, Wp_bool, Wp_tru, Wp_not, Wp_and, Wp_or, Wp_ofB, Wp_if, Wp_andV, Wp_orV, Wp_un, Wp_nil, Wp_cons, Raw.datas_nil, Raw.datas_cons, Raw.vals_nil, Raw.vals_cons, Wp_tup, Wp_lst, Wp_call, Wp_callO, Wp_set, Wp_app, Wp_pop, Wp_rev, Wp_range1, Wp_range2, Wp_err, Wp_erris, Ws_nx, Ws_bk, Ws_ct, Ws_retN, Ws_expr, Ws_ret, Ws_if, Ws_set, Ws_par, Ws_unp, Ws_raise, Ws_raise0, dEq_ii, dNe_ii, dLen_lst, dLen_wls, dLen_tup, ix_lst, ix_wls, ix_tup', enF, gSet, gTupD, gsCons, gsNil, ↓reduceIte, List.getElem?_cons_zero, List.getElem?_cons_succ, List.getElem?_nil, List.set_cons_zero, List.set_cons_succ, List.set_nil, List.length_cons, List.length_nil, List.replicate, List.cons_append, List.nil_append, List.append_nil, List.take, Option.map_some, decide_eq_true_eq, decide_eq_false_iff_not, Bool.not_eq_true', Bool.not_eq_false', Bool.not_not, Bool.not_true, Bool.not_false, true_and, and_true, false_and, and_false, imp_self, implies_true, not_false_eq_true, not_true_eq_false, true_implies, false_implies, Bool.true_eq_false, Bool.false_eq_true, forall_const, Nat.reduceAdd, Nat.reduceSub, Nat.reduceEqDiff, Nat.reduceLeDiff, mulOk_iff, divOk_iff, modOk_iff, powOk_iff, small_iff, isa_int_non, isa_int_bl, isa_int_int, isa_int_str, isa_int_tup, isa_int_lst, isa_int_wls, isa_int_dic, isa_bool_non, isa_bool_bl, isa_bool_int, isa_bool_str, isa_bool_tup, isa_bool_lst, isa_bool_wls, isa_bool_dic, isa_str_non, isa_str_bl, isa_str_int, isa_str_str, isa_str_tup, isa_str_lst, isa_str_wls, isa_str_dic, isa_list_non, isa_list_bl, isa_list_int, isa_list_str, isa_list_tup, isa_list_lst, isa_list_wls, isa_list_dic, isa_tuple_non, isa_tuple_bl, isa_tuple_int, isa_tuple_str, isa_tuple_tup, isa_tuple_lst, isa_tuple_wls, isa_tuple_dic, isa_list_tuple_non, isa_list_tuple_bl, isa_list_tuple_int, isa_list_tuple_str, isa_list_tuple_tup, isa_list_tuple_lst, isa_list_tuple_wls, isa_list_tuple_dic, isa_int_str_non, isa_int_str_bl, isa_int_str_int, isa_int_str_str, isa_int_str_tup, isa_int_str_lst, isa_int_str_wls, isa_int_str_dic, isa_str_int_non, isa_str_int_bl, isa_str_int_int, isa_str_int_str, isa_str_int_tup, isa_str_int_lst, isa_str_int_wls, isa_str_int_dic, isa_tuple_list_non, isa_tuple_list_bl, isa_tuple_list_int, isa_tuple_list_str, isa_tuple_list_tup, isa_tuple_list_lst, isa_tuple_list_wls, isa_tuple_list_dic, dIsN_bl, dNotN_bl, dIsN_int, dNotN_int, dIsN_str, dNotN_str, dIsN_tup, dNotN_tup, dIsN_lst, dNotN_lst, dIsN_wls, dNotN_wls, dIsN_dic, dNotN_dic, dIsN_non, dNotN_non, tru_bl, tru_non, tru_int, tru_lst, tru_wls, tru_tup, int_int, back_val', back_own', back_non]
      refine ⟨fun z => ?_, fun z => hK5 _ ?_⟩
      · obtain ⟨n, rfl⟩ : ∃ n, i = n + 1 := by
          cases i with
          | zero => simp at z; omega
          | succ n => exact ⟨n, rfl⟩
        have hn0 := p2pos n
        rw [p2] at hi1 hi0 z g1 g3 ⊢
        have hm : (lo + (lo + 2 * 2 ^ n)).fdiv 2 = lo + 2 ^ n := by rw [fdiv_pos (by decide)]; omega
        refine ws_seq fun K6 hK6 => ?_
        simp only [Wp_ret, Wp_no, Wp_bnd, Wp_ite, Raw.stay_val, Raw.stay_bor, Wp_m2, Wp_var, Wp_peek, Wp_move, Wp_frz, Raw.frz_own, Raw.frz_val, Raw.frz_lst, Wp_gI, Wp_gD, Wp_g1, Wp_g2I, Raw.dt_val, Raw.dt_own, Raw.dt_bor, Wp_isa, Wp_bool, Wp_tru, Wp_not, Wp_and, Wp_or, Wp_ofB, Wp_if, Wp_andV, Wp_orV, Wp_un, Wp_nil, Wp_cons, Raw.datas_nil, Raw.datas_cons, Raw.vals_nil, Raw.vals_cons, Wp_tup, Wp_lst, Wp_call, Wp_callO, Wp_set, Wp_app, Wp_pop, Wp_rev, Wp_range1, Wp_range2, Wp_err, Wp_erris, Ws_nx, Ws_bk, Ws_ct, Ws_retN, Ws_expr, Ws_ret, Ws_if, Ws_set, Ws_par, Ws_unp, Ws_raise, Ws_raise0, dEq_ii, dNe_ii, dLen_lst, dLen_wls, dLen_tup, ix_lst, ix_wls, ix_tup', enF, gSet, gTupD, gsCons, gsNil, ↓reduceIte, List.getElem?_cons_zero, List.getElem?_cons_succ, List.getElem?_nil, List.set_cons_zero, List.set_cons_succ, List.set_nil, List.length_cons, List.length_nil, List.replicate, List.cons_append, List.nil_append, List.append_nil, List.take, Option.map_some, decide_eq_true_eq, decide_eq_false_iff_not, Bool.not_eq_true', Bool.not_eq_false', Bool.not_not, Bool.not_true, Bool.not_false, true_and, and_true, false_and, and_false, imp_self, implies_true, not_false_eq_true, not_true_eq_false, true_implies, false_implies, Bool.true_eq_false, Bool.false_eq_true, forall_const, Nat.reduceAdd, Nat.reduceSub, Nat.reduceEqDiff, Nat.reduceLeDiff, mulOk_iff, divOk_iff, modOk_iff, powOk_iff, small_iff, isa_int_non, isa_int_bl, isa_int_int, isa_int_str, isa_int_tup, isa_int_lst, isa_int_wls, isa_int_dic, isa_bool_non, isa_bool_bl, isa_bool_int, isa_bool_str, isa_bool_tup, isa_bool_lst, isa_bool_wls, isa_bool_dic, isa_str_non, isa_str_bl, isa_str_int, isa_str_str, isa_str_tup, isa_str_lst, isa_str_wls, isa_str_dic, isa_list_non, isa_list_bl, isa_list_int, isa_list_str, isa_list_tup, isa_list_lst, isa_list_wls, isa_list_dic, isa_tuple_non, isa_tuple_bl, isa_tuple_int, isa_tuple_str, isa_tuple_tup, isa_tuple_lst, isa_tuple_wls, isa_tuple_dic, isa_list_tuple_non, isa_list_tuple_bl, isa_list_tuple_int, isa_list_tuple_str, isa_list_tuple_tup, isa_list_tuple_lst, isa_list_tuple_wls, isa_list_tuple_dic, isa_int_str_non, isa_int_str_bl, isa_int_str_int, isa_int_str_str, isa_int_str_tup, isa_int_str_lst, isa_int_str_wls, isa_int_str_dic, isa_str_int_non, isa_str_int_bl, isa_str_int_int, isa_str_int_str, isa_str_int_tup, isa_str_int_lst, isa_str_int_wls, isa_str_int_dic, isa_tuple_list_non, isa_tuple_list_bl, isa_tuple_list_int, isa_tuple_list_str, isa_tuple_list_tup, isa_tuple_list_lst, isa_tuple_list_wls, isa_tuple_list_dic, dIsN_bl, dNotN_bl, dIsN_int, dNotN_int, dIsN_str, dNotN_str, dIsN_tup, dNotN_tup, dIsN_lst, dNotN_lst, dIsN_wls, dNotN_wls, dIsN_dic, dNotN_dic, dIsN_non, dNotN_non, tru_bl, tru_non, tru_int, tru_lst, tru_wls, tru_tup, int_int, back_val', back_own', back_non, hm]
        refine ⟨by decide, hK6 _ ?_⟩
        simp only [Wp_ret, Wp_no, Wp_bnd, Wp_ite, Raw.stay_val, Raw.stay_bor, Wp_m2, Wp_var, Wp_peek, Wp_move, Wp_frz, Raw.frz_own, Raw.frz_val, Raw.frz_lst, Wp_gI, Wp_gD, Wp_g1, Wp_g2I, Raw.dt_val, Raw.dt_own, Raw.dt_bor, Wp_isa, Wp_bool, Wp_tru, Wp_not, Wp_and, Wp_or, Wp_ofB, Wp_if, Wp_andV, Wp_orV, Wp_un, Wp_nil, Wp_cons, Raw.datas_nil, Raw.datas_cons, Raw.vals_nil, Raw.vals_cons, Wp_tup, Wp_lst, Wp_call, Wp_callO, Wp_set, Wp_app, Wp_pop, Wp_rev, Wp_range1, Wp_range2, Wp_err, Wp_erris, Ws_nx, Ws_bk, Ws_ct, Ws_retN, Ws_expr, Ws_ret, Ws_if, Ws_set, Ws_par, Ws_unp, Ws_raise, Ws_raise0, dEq_ii, dNe_ii, dLen_lst, dLen_wls, dLen_tup, ix_lst, ix_wls, ix_tup', enF, gSet, gTupD, gsCons, gsNil, ↓reduceIte, List.getElem?_cons_zero, List.getElem?_cons_succ, List.getElem?_nil, List.set_cons_zero, List.set_cons_succ, List.set_nil, List.length_cons, List.length_nil, List.replicate, List.cons_append, List.nil_append, List.append_nil, List.take, Option.map_some, decide_eq_true_eq, decide_eq_false_iff_not, Bool.not_eq_true', Bool.not_eq_false', Bool.not_not, Bool.not_true, Bool.not_false, true_and, and_true, false_and, and_false, imp_self, implies_true, not_false_eq_true, not_true_eq_false, true_implies, false_implies, Bool.true_eq_false, Bool.false_eq_true, forall_const, Nat.reduceAdd, Nat.reduceSub, Nat.reduceEqDiff, Nat.reduceLeDiff, mulOk_iff, divOk_iff, modOk_iff, powOk_iff, small_iff, isa_int_non, isa_int_bl, isa_int_int, isa_int_str, isa_int_tup, isa_int_lst, isa_int_wls, isa_int_dic, isa_bool_non, isa_bool_bl, isa_bool_int, isa_bool_str, isa_bool_tup, isa_bool_lst, isa_bool_wls, isa_bool_dic, isa_str_non, isa_str_bl, isa_str_int, isa_str_str, isa_str_tup, isa_str_lst, isa_str_wls, isa_str_dic, isa_list_non, isa_list_bl, isa_list_int, isa_list_str, isa_list_tup, isa_list_lst, isa_list_wls, isa_list_dic, isa_tuple_non, isa_tuple_bl, isa_tuple_int, isa_tuple_str, isa_tuple_tup, isa_tuple_lst, isa_tuple_wls, isa_tuple_dic, isa_list_tuple_non, isa_list_tuple_bl, isa_list_tuple_int, isa_list_tuple_str, isa_list_tuple_tup, isa_list_tuple_lst, isa_list_tuple_wls, isa_list_tuple_dic, isa_int_str_non, isa_int_str_bl, isa_int_str_int, isa_int_str_str, isa_int_str_tup, isa_int_str_lst, isa_int_str_wls, isa_int_str_dic, isa_str_int_non, isa_str_int_bl, isa_str_int_int, isa_str_int_str, isa_str_int_tup, isa_str_int_lst, isa_str_int_wls, isa_str_int_dic, isa_tuple_list_non, isa_tuple_list_bl, isa_tuple_list_int, isa_tuple_list_str, isa_tuple_list_tup, isa_tuple_list_lst, isa_tuple_list_wls, isa_tuple_list_dic, dIsN_bl, dNotN_bl, dIsN_int, dNotN_int, dIsN_str, dNotN_str, dIsN_tup, dNotN_tup, dIsN_lst, dNotN_lst, dIsN_wls, dNotN_wls, dIsN_dic, dNotN_dic, dIsN_non, dNotN_non, tru_bl, tru_non, tru_int, tru_lst, tru_wls, tru_tup, int_int, back_val', back_own', back_non]
        refine w_start hb (by omega) (by omega) (by omega) fun _ => ?_
        simp only [Wp_ret, Wp_no, Wp_bnd, Wp_ite, Raw.stay_val, Raw.stay_bor, Wp_m2, Wp_var, Wp_peek, Wp_move, Wp_frz, Raw.frz_own, Raw.frz_val, Raw.frz_lst, Wp_gI, Wp_gD, Wp_g1, Wp_g2I, Raw.dt_val, Raw.dt_own, Raw.dt_bor, Wp_isa, Wp_bool, Wp_tru, Wp_not, Wp_and, Wp_or, Wp_ofB, Wp_if, Wp_andV, Wp_orV, Wp_un, Wp_nil, Wp_cons, Raw.datas_nil, Raw.datas_cons, Raw.vals_nil, Raw.vals_cons, Wp_tup, Wp_lst, Wp_call, Wp_callO, Wp_set, Wp_app, Wp_pop, Wp_rev, Wp_range1, Wp_range2, Wp_err, Wp_erris, Ws_nx, Ws_bk, Ws_ct, Ws_retN, Ws_expr, Ws_ret, Ws_if, Ws_set, Ws_par, Ws_unp, Ws_raise, Ws_raise0, dEq_ii, dNe_ii, dLen_lst, dLen_wls, dLen_tup, ix_lst, ix_wls, ix_tup', enF, gSet, gTupD, gsCons, gsNil, ↓reduceIte, List.getElem?_cons_zero, List.getElem?_cons_succ, List.getElem?_nil, List.set_cons_zero, List.set_cons_succ, List.set_nil, List.length_cons, List.length_nil, List.replicate, List.cons_append, List.nil_append, List.append_nil, List.take, Option.map_some, decide_eq_true_eq, decide_eq_false_iff_not, Bool.not_eq_true', Bool.not_eq_false', Bool.not_not, Bool.not_true, Bool.not_false, true_and, and_true, false_and, and_false, imp_self, implies_true, not_false_eq_true, not_true_eq_false, true_implies, false_implies, Bool.true_eq_false, Bool.false_eq_true, forall_const, Nat.reduceAdd, Nat.reduceSub, Nat.reduceEqDiff, Nat.reduceLeDiff, mulOk_iff, divOk_iff, modOk_iff, powOk_iff, small_iff, isa_int_non, isa_int_bl, isa_int_int, isa_int_str, isa_int_tup, isa_int_lst, isa_int_wls, isa_int_dic, isa_bool_non, isa_bool_bl, isa_bool_int, isa_bool_str, isa_bool_tup, isa_bool_lst, isa_bool_wls, isa_bool_dic, isa_str_non, isa_str_bl, isa_str_int, isa_str_str, isa_str_tup, isa_str_lst, isa_str_wls, isa_str_dic, isa_list_non, isa_list_bl, isa_list_int, isa_list_str, isa_list_tup, isa_list_lst, isa_list_wls, isa_list_dic, isa_tuple_non, isa_tuple_bl, isa_tuple_int, isa_tuple_str, isa_tuple_tup, isa_tuple_lst, isa_tuple_wls, isa_tuple_dic, isa_list_tuple_non, isa_list_tuple_bl, isa_list_tuple_int, isa_list_tuple_str, isa_list_tuple_tup, isa_list_tuple_lst, isa_list_tuple_wls, isa_list_tuple_dic, isa_int_str_non, isa_int_str_bl, isa_int_str_int, isa_int_str_str, isa_int_str_tup, isa_int_str_lst, isa_int_str_wls, isa_int_str_dic, isa_str_int_non, isa_str_int_bl, isa_str_int_int, isa_str_int_str, isa_str_int_tup, isa_str_int_lst, isa_str_int_wls, isa_str_int_dic, isa_tuple_list_non, isa_tuple_list_bl, isa_tuple_list_int, isa_tuple_list_str, isa_tuple_list_tup, isa_tuple_list_lst, isa_tuple_list_wls, isa_tuple_list_dic, dIsN_bl, dNotN_bl, dIsN_int, dNotN_int, dIsN_str, dNotN_str, dIsN_tup, dNotN_tup, dIsN_lst, dNotN_lst, dIsN_wls, dNotN_wls, dIsN_dic, dNotN_dic, dIsN_non, dNotN_non, tru_bl, tru_non, tru_int, tru_lst, tru_wls, tru_tup, int_int, back_val', back_own', back_non]
        refine ⟨fun y => ⟨n, by omega, lo + 2 ^ n, _, by rw [show lo + 2 * 2 ^ n = lo + 2 ^ n + 2 ^ n by omega], by omega, by omega, y, ?_⟩, fun y => ⟨n, by omega, lo, _, rfl, g0, by omega, g2, by omega⟩⟩
        rw [show lo + 2 ^ n + 2 ^ n = lo + 2 * 2 ^ n by omega]; exact g3
      · have h1' : (2 : Int) ^ i = 1 := by omega
        rw [h1'] at g3
        simp only [Wp_ret, Wp_no, Wp_bnd, Wp_ite, Raw.stay_val, Raw.stay_bor, Wp_m2, Wp_var, Wp_peek, Wp_move, Wp_frz, Raw.frz_own, Raw.frz_val, Raw.frz_lst, Wp_gI, Wp_gD, Wp_g1, Wp_g2I, Raw.dt_val, Raw.dt_own, Raw.dt_bor, Wp_isa, Wp_bool, Wp_tru, Wp_not, Wp_and, Wp_or, Wp_ofB, Wp_if, Wp_andV, Wp_orV, Wp_un, Wp_nil, Wp_cons, Raw.datas_nil, Raw.datas_cons, Raw.vals_nil, Raw.vals_cons, Wp_tup, Wp_lst, Wp_call, Wp_callO, Wp_set, Wp_app, Wp_pop, Wp_rev, Wp_range1, Wp_range2, Wp_err, Wp_erris, Ws_nx, Ws_bk, Ws_ct, Ws_retN, Ws_expr, Ws_ret, Ws_if, Ws_set, Ws_par, Ws_unp, Ws_raise, Ws_raise0, dEq_ii, dNe_ii, dLen_lst, dLen_wls, dLen_tup, ix_lst, ix_wls, ix_tup', enF, gSet, gTupD, gsCons, gsNil, ↓reduceIte, List.getElem?_cons_zero, List.getElem?_cons_succ, List.getElem?_nil, List.set_cons_zero, List.set_cons_succ, List.set_nil, List.length_cons, List.length_nil, List.replicate, List.cons_append, List.nil_append, List.append_nil, List.take, Option.map_some, decide_eq_true_eq, decide_eq_false_iff_not, Bool.not_eq_true', Bool.not_eq_false', Bool.not_not, Bool.not_true, Bool.not_false, true_and, and_true, false_and, and_false, imp_self, implies_true, not_false_eq_true, not_true_eq_false, true_implies, false_implies, Bool.true_eq_false, Bool.false_eq_true, forall_const, Nat.reduceAdd, Nat.reduceSub, Nat.reduceEqDiff, Nat.reduceLeDiff, mulOk_iff, divOk_iff, modOk_iff, powOk_iff, small_iff, isa_int_non, isa_int_bl, isa_int_int, isa_int_str, isa_int_tup, isa_int_lst, isa_int_wls, isa_int_dic, isa_bool_non, isa_bool_bl, isa_bool_int, isa_bool_str, isa_bool_tup, isa_bool_lst, isa_bool_wls, isa_bool_dic, isa_str_non, isa_str_bl, isa_str_int, isa_str_str, isa_str_tup, isa_str_lst, isa_str_wls, isa_str_dic, isa_list_non, isa_list_bl, isa_list_int, isa_list_str, isa_list_tup, isa_list_lst, isa_list_wls, isa_list_dic, isa_tuple_non, isa_tuple_bl, isa_tuple_int, isa_tuple_str, isa_tuple_tup, isa_tuple_lst, isa_tuple_wls, isa_tuple_dic, isa_list_tuple_non, isa_list_tuple_bl, isa_list_tuple_int, isa_list_tuple_str, isa_list_tuple_tup, isa_list_tuple_lst, isa_list_tuple_wls, isa_list_tuple_dic, isa_int_str_non, isa_int_str_bl, isa_int_str_int, isa_int_str_str, isa_int_str_tup, isa_int_str_lst, isa_int_str_wls, isa_int_str_dic, isa_str_int_non, isa_str_int_bl, isa_str_int_int, isa_str_int_str, isa_str_int_tup, isa_str_int_lst, isa_str_int_wls, isa_str_int_dic, isa_tuple_list_non, isa_tuple_list_bl, isa_tuple_list_int, isa_tuple_list_str, isa_tuple_list_tup, isa_tuple_list_lst, isa_tuple_list_wls, isa_tuple_list_dic, dIsN_bl, dNotN_bl, dIsN_int, dNotN_int, dIsN_str, dNotN_str, dIsN_tup, dNotN_tup, dIsN_lst, dNotN_lst, dIsN_wls, dNotN_wls, dIsN_dic, dNotN_dic, dIsN_non, dNotN_non, tru_bl, tru_non, tru_int, tru_lst, tru_wls, tru_tup, int_int, back_val', back_own', back_non]
        exact q _ _ g0 g2 g3
theorem w_int {i : Int} (q : ∀ ls, Q (.val (.bl true)) ls) : Wo (m_law_int [.val (.int i)]) Q E := by
  unfold m_law_int
  refine wo_fn ?_
  unfold b_law_int
  simp only [Wp_ret, Wp_no, Wp_bnd, Wp_ite, Raw.stay_val, Raw.stay_bor, Wp_m2, Wp_var, Wp_peek, Wp_move, Wp_frz, Raw.frz_own, Raw.frz_val, Raw.frz_lst, Wp_gI, Wp_gD, Wp_g1, Wp_g2I, Raw.dt_val, Raw.dt_own, Raw.dt_bor, Wp_isa, Wp_bool, Wp_tru, Wp_not, Wp_and, Wp_or, Wp_ofB, Wp_if, Wp_andV, Wp_orV, Wp_un, Wp_nil, Wp_cons, Raw.datas_nil, Raw.datas_cons, Raw.vals_nil, Raw.vals_cons, Wp_tup, Wp_lst, Wp_call, Wp_callO, Wp_set, Wp_app, Wp_pop, Wp_rev, Wp_range1, Wp_range2, Wp_err, Wp_erris, Ws_nx, Ws_bk, Ws_ct, Ws_retN, Ws_expr, Ws_ret, Ws_if, Ws_set, Ws_par, Ws_unp, Ws_raise, Ws_raise0, dEq_ii, dNe_ii, dLen_lst, dLen_wls, dLen_tup, ix_lst, ix_wls, ix_tup', enF, gSet, gTupD, gsCons, gsNil, ↓reduceIte, List.getElem?_cons_zero, List.getElem?_cons_succ, List.getElem?_nil, List.set_cons_zero, List.set_cons_succ, List.set_nil, List.length_cons, List.length_nil, List.replicate, List.cons_append, List.nil_append, List.append_nil, List.take, Option.map_some, decide_eq_true_eq, decide_eq_false_iff_not, Bool.not_eq_true', Bool.not_eq_false', Bool.not_not, Bool.not_true, Bool.not_false, true_and, and_true, false_and, and_false, imp_self, implies_true, not_false_eq_true, not_true_eq_false, true_implies, false_implies, Bool.true_eq_false, Bool.false_eq_true, forall_const, Nat.reduceAdd, Nat.reduceSub, Nat.reduceEqDiff, Nat.reduceLeDiff, mulOk_iff, divOk_iff, modOk_iff, powOk_iff, small_iff, isa_int_non, isa_int_bl, isa_int_int, isa_int_str, isa_int_tup, isa_int_lst, isa_int_wls, isa_int_dic, isa_bool_non, isa_bool_bl, isa_bool_int, isa_bool_str, isa_bool_tup, isa_bool_lst, isa_bool_wls, isa_bool_dic, isa_str_non, isa_str_bl, isa_str_int, isa_str_str, isa_str_tup, isa_str_lst, isa_str_wls, isa_str_dic, isa_list_non, isa_list_bl, isa_list_int, isa_list_str, isa_list_tup, isa_list_lst, isa_list_wls, isa_list_dic, isa_tuple_non, isa_tuple_bl, isa_tuple_int, isa_tuple_str, isa_tuple_tup, isa_tuple_lst, isa_tuple_wls, isa_tuple_dic, isa_list_tuple_non, isa_list_tuple_bl, isa_list_tuple_int, isa_list_tuple_str, isa_list_tuple_tup, isa_list_tuple_lst, isa_list_tuple_wls, isa_list_tuple_dic, isa_int_str_non, isa_int_str_bl, isa_int_str_int, isa_int_str_str, isa_int_str_tup, isa_int_str_lst, isa_int_str_wls, isa_int_str_dic, isa_str_int_non, isa_str_int_bl, isa_str_int_int, isa_str_int_str, isa_str_int_tup, isa_str_int_lst, isa_str_int_wls, isa_str_int_dic, isa_tuple_list_non, isa_tuple_list_bl, isa_tuple_list_int, isa_tuple_list_str, isa_tuple_list_tup, isa_tuple_list_lst, isa_tuple_list_wls, isa_tuple_list_dic, dIsN_bl, dNotN_bl, dIsN_int, dNotN_int, dIsN_str, dNotN_str, dIsN_tup, dNotN_tup, dIsN_lst, dNotN_lst, dIsN_wls, dNotN_wls, dIsN_dic, dNotN_dic, dIsN_non, dNotN_non, tru_bl, tru_non, tru_int, tru_lst, tru_wls, tru_tup, int_int, back_val', back_own', back_non]
  exact q _
theorem w_leader {h v : Int} (h0 : h ≠ 0) (q : ∀ ls, Q (.val (.int (v.fmod h))) ls) : Wo (m_leader_of [.val (.int h), .val (.int v)]) Q E := by
  unfold m_leader_of
  refine wo_fn ?_
  unfold b_leader_of
  simp only [Wp_ret, Wp_no, Wp_bnd, Wp_ite, Raw.stay_val, Raw.stay_bor, Wp_m2, Wp_var, Wp_peek, Wp_move, Wp_frz, Raw.frz_own, Raw.frz_val, Raw.frz_lst, Wp_gI, Wp_gD, Wp_g1, Wp_g2I, Raw.dt_val, Raw.dt_own, Raw.dt_bor, Wp_isa, Wp_bool, Wp_tru, Wp_not, Wp_and, Wp_or, Wp_ofB, Wp_if, Wp_andV, Wp_orV, Wp_un, Wp_nil, Wp_cons, Raw.datas_nil, Raw.datas_cons, Raw.vals_nil, Raw.vals_cons, Wp_tup, Wp_lst, Wp_call, Wp_callO, Wp_set, Wp_app, Wp_pop, Wp_rev, Wp_range1, Wp_range2, Wp_err, Wp_erris, Ws_nx, Ws_bk, Ws_ct, Ws_retN, Ws_expr, Ws_ret, Ws_if, Ws_set, Ws_par, Ws_unp, Ws_raise, Ws_raise0, dEq_ii, dNe_ii, dLen_lst, dLen_wls, dLen_tup, ix_lst, ix_wls, ix_tup', enF, gSet, gTupD, gsCons, gsNil, ↓reduceIte, List.getElem?_cons_zero, List.getElem?_cons_succ, List.getElem?_nil, List.set_cons_zero, List.set_cons_succ, List.set_nil, List.length_cons, List.length_nil, List.replicate, List.cons_append, List.nil_append, List.append_nil, List.take, Option.map_some, decide_eq_true_eq, decide_eq_false_iff_not, Bool.not_eq_true', Bool.not_eq_false', Bool.not_not, Bool.not_true, Bool.not_false, true_and, and_true, false_and, and_false, imp_self, implies_true, not_false_eq_true, not_true_eq_false, true_implies, false_implies, Bool.true_eq_false, Bool.false_eq_true, forall_const, Nat.reduceAdd, Nat.reduceSub, Nat.reduceEqDiff, Nat.reduceLeDiff, mulOk_iff, divOk_iff, modOk_iff, powOk_iff, small_iff, isa_int_non, isa_int_bl, isa_int_int, isa_int_str, isa_int_tup, isa_int_lst, isa_int_wls, isa_int_dic, isa_bool_non, isa_bool_bl, isa_bool_int, isa_bool_str, isa_bool_tup, isa_bool_lst, isa_bool_wls, isa_bool_dic, isa_str_non, isa_str_bl, isa_str_int, isa_str_str, isa_str_tup, isa_str_lst, isa_str_wls, isa_str_dic, isa_list_non, isa_list_bl, isa_list_int, isa_list_str, isa_list_tup, isa_list_lst, isa_list_wls, isa_list_dic, isa_tuple_non, isa_tuple_bl, isa_tuple_int, isa_tuple_str, isa_tuple_tup, isa_tuple_lst, isa_tuple_wls, isa_tuple_dic, isa_list_tuple_non, isa_list_tuple_bl, isa_list_tuple_int, isa_list_tuple_str, isa_list_tuple_tup, isa_list_tuple_lst, isa_list_tuple_wls, isa_list_tuple_dic, isa_int_str_non, isa_int_str_bl, isa_int_str_int, isa_int_str_str, isa_int_str_tup, isa_int_str_lst, isa_int_str_wls, isa_int_str_dic, isa_str_int_non, isa_str_int_bl, isa_str_int_int, isa_str_int_str, isa_str_int_tup, isa_str_int_lst, isa_str_int_wls, isa_str_int_dic, isa_tuple_list_non, isa_tuple_list_bl, isa_tuple_list_int, isa_tuple_list_str, isa_tuple_list_tup, isa_tuple_list_lst, isa_tuple_list_wls, isa_tuple_list_dic, dIsN_bl, dNotN_bl, dIsN_int, dNotN_int, dIsN_str, dNotN_str, dIsN_tup, dNotN_tup, dIsN_lst, dNotN_lst, dIsN_wls, dNotN_wls, dIsN_dic, dNotN_dic, dIsN_non, dNotN_non, tru_bl, tru_non, tru_int, tru_lst, tru_wls, tru_tup, int_int, back_val', back_own', back_non]
  exact ⟨h0, q _⟩
theorem w_take {xs : List Int} {many : Int} (h : 0 < many) (q : ∀ (x : Int) (ys : List Int), 0 ≤ x → x < many → Q (.val (.int x)) [.own (.lst (ys.map .int)), .val (.int many)]) : Wo (m_law_take [.own (.lst (xs.map .int)), .val (.int many)]) Q E := by
  unfold m_law_take
  refine wo_fn ?_
  unfold b_law_take
  refine ws_seq fun K hK => ?_
  simp only [Wp_ret, Wp_no, Wp_bnd, Wp_ite, Raw.stay_val, Raw.stay_bor, Wp_m2, Wp_var, Wp_peek, Wp_move, Wp_frz, Raw.frz_own, Raw.frz_val, Raw.frz_lst, Wp_gI, Wp_gD, Wp_g1, Wp_g2I, Raw.dt_val, Raw.dt_own, Raw.dt_bor, Wp_isa, Wp_bool, Wp_tru, Wp_not, Wp_and, Wp_or, Wp_ofB, Wp_if, Wp_andV, Wp_orV, Wp_un, Wp_nil, Wp_cons, Raw.datas_nil, Raw.datas_cons, Raw.vals_nil, Raw.vals_cons, Wp_tup, Wp_lst, Wp_call, Wp_callO, Wp_set, Wp_app, Wp_pop, Wp_rev, Wp_range1, Wp_range2, Wp_err, Wp_erris, Ws_nx, Ws_bk, Ws_ct, Ws_retN, Ws_expr, Ws_ret, Ws_if, Ws_set, Ws_par, Ws_unp, Ws_raise, Ws_raise0, dEq_ii, dNe_ii, dLen_lst, dLen_wls, dLen_tup, ix_lst, ix_wls, ix_tup', enF, gSet, gTupD, gsCons, gsNil, ↓reduceIte, List.getElem?_cons_zero, List.getElem?_cons_succ, List.getElem?_nil, List.set_cons_zero, List.set_cons_succ, List.set_nil, List.length_cons, List.length_nil, List.replicate, List.cons_append, List.nil_append, List.append_nil, List.take, Option.map_some, decide_eq_true_eq, decide_eq_false_iff_not, Bool.not_eq_true', Bool.not_eq_false', Bool.not_not, Bool.not_true, Bool.not_false, true_and, and_true, false_and, and_false, imp_self, implies_true, not_false_eq_true, not_true_eq_false, true_implies, false_implies, Bool.true_eq_false, Bool.false_eq_true, forall_const, Nat.reduceAdd, Nat.reduceSub, Nat.reduceEqDiff, Nat.reduceLeDiff, mulOk_iff, divOk_iff, modOk_iff, powOk_iff, small_iff, isa_int_non, isa_int_bl, isa_int_int, isa_int_str, isa_int_tup, isa_int_lst, isa_int_wls, isa_int_dic, isa_bool_non, isa_bool_bl, isa_bool_int, isa_bool_str, isa_bool_tup, isa_bool_lst, isa_bool_wls, isa_bool_dic, isa_str_non, isa_str_bl, isa_str_int, isa_str_str, isa_str_tup, isa_str_lst, isa_str_wls, isa_str_dic, isa_list_non, isa_list_bl, isa_list_int, isa_list_str, isa_list_tup, isa_list_lst, isa_list_wls, isa_list_dic, isa_tuple_non, isa_tuple_bl, isa_tuple_int, isa_tuple_str, isa_tuple_tup, isa_tuple_lst, isa_tuple_wls, isa_tuple_dic, isa_list_tuple_non, isa_list_tuple_bl, isa_list_tuple_int, isa_list_tuple_str, isa_list_tuple_tup, isa_list_tuple_lst, isa_list_tuple_wls, isa_list_tuple_dic, isa_int_str_non, isa_int_str_bl, isa_int_str_int, isa_int_str_str, isa_int_str_tup, isa_int_str_lst, isa_int_str_wls, isa_int_str_dic, isa_str_int_non, isa_str_int_bl, isa_str_int_int, isa_str_int_str, isa_str_int_tup, isa_str_int_lst, isa_str_int_wls, isa_str_int_dic, isa_tuple_list_non, isa_tuple_list_bl, isa_tuple_list_int, isa_tuple_list_str, isa_tuple_list_tup, isa_tuple_list_lst, isa_tuple_list_wls, isa_tuple_list_dic, dIsN_bl, dNotN_bl, dIsN_int, dNotN_int, dIsN_str, dNotN_str, dIsN_tup, dNotN_tup, dIsN_lst, dNotN_lst, dIsN_wls, dNotN_wls, dIsN_dic, dNotN_dic, dIsN_non, dNotN_non, tru_bl, tru_non, tru_int, tru_lst, tru_wls, tru_tup, int_int, back_val', back_own', back_non]
  refine ⟨fun _ => ?_, fun z => hK _ ?_⟩
  · exact q 0 xs (Int.le_refl _) h
  · simp only [Wp_ret, Wp_no, Wp_bnd, Wp_ite, Raw.stay_val, Raw.stay_bor, Wp_m2, Wp_var, Wp_peek, Wp_move, Wp_frz, Raw.frz_own, Raw.frz_val, Raw.frz_lst, Wp_gI, Wp_gD, Wp_g1, Wp_g2I, Raw.dt_val, Raw.dt_own, Raw.dt_bor, Wp_isa, Wp_bool, Wp_tru, Wp_not, Wp_and, Wp_or, Wp_ofB, Wp_if, Wp_andV, Wp_orV, Wp_un, Wp_nil, Wp_cons, Raw.datas_nil, Raw.datas_cons, Raw.vals_nil, Raw.vals_cons, Wp_tup, Wp_lst, Wp_call, Wp_callO, Wp_set, Wp_app, Wp_pop, Wp_rev, Wp_range1, Wp_range2, Wp_err, Wp_erris, Ws_nx, Ws_bk, Ws_ct, Ws_retN, Ws_expr, Ws_ret, Ws_if, Ws_set, Ws_par, Ws_unp, Ws_raise, Ws_raise0, dEq_ii, dNe_ii, dLen_lst, dLen_wls, dLen_tup, ix_lst, ix_wls, ix_tup', enF, gSet, gTupD, gsCons, gsNil, ↓reduceIte, List.getElem?_cons_zero, List.getElem?_cons_succ, List.getElem?_nil, List.set_cons_zero, List.set_cons_succ, List.set_nil, List.length_cons, List.length_nil, List.replicate, List.cons_append, List.nil_append, List.append_nil, List.take, Option.map_some, decide_eq_true_eq, decide_eq_false_iff_not, Bool.not_eq_true', Bool.not_eq_false', Bool.not_not, Bool.not_true, Bool.not_false, true_and, and_true, false_and, and_false, imp_self, implies_true, not_false_eq_true, not_true_eq_false, true_implies, false_implies, Bool.true_eq_false, Bool.false_eq_true, forall_const, Nat.reduceAdd, Nat.reduceSub, Nat.reduceEqDiff, Nat.reduceLeDiff, mulOk_iff, divOk_iff, modOk_iff, powOk_iff, small_iff, isa_int_non, isa_int_bl, isa_int_int, isa_int_str, isa_int_tup, isa_int_lst, isa_int_wls, isa_int_dic, isa_bool_non, isa_bool_bl, isa_bool_int, isa_bool_str, isa_bool_tup, isa_bool_lst, isa_bool_wls, isa_bool_dic, isa_str_non, isa_str_bl, isa_str_int, isa_str_str, isa_str_tup, isa_str_lst, isa_str_wls, isa_str_dic, isa_list_non, isa_list_bl, isa_list_int, isa_list_str, isa_list_tup, isa_list_lst, isa_list_wls, isa_list_dic, isa_tuple_non, isa_tuple_bl, isa_tuple_int, isa_tuple_str, isa_tuple_tup, isa_tuple_lst, isa_tuple_wls, isa_tuple_dic, isa_list_tuple_non, isa_list_tuple_bl, isa_list_tuple_int, isa_list_tuple_str, isa_list_tuple_tup, isa_list_tuple_lst, isa_list_tuple_wls, isa_list_tuple_dic, isa_int_str_non, isa_int_str_bl, isa_int_str_int, isa_int_str_str, isa_int_str_tup, isa_int_str_lst, isa_int_str_wls, isa_int_str_dic, isa_str_int_non, isa_str_int_bl, isa_str_int_int, isa_str_int_str, isa_str_int_tup, isa_str_int_lst, isa_str_int_wls, isa_str_int_dic, isa_tuple_list_non, isa_tuple_list_bl, isa_tuple_list_int, isa_tuple_list_str, isa_tuple_list_tup, isa_tuple_list_lst, isa_tuple_list_wls, isa_tuple_list_dic, dIsN_bl, dNotN_bl, dIsN_int, dNotN_int, dIsN_str, dNotN_str, dIsN_tup, dNotN_tup, dIsN_lst, dNotN_lst, dIsN_wls, dNotN_wls, dIsN_dic, dNotN_dic, dIsN_non, dNotN_non, tru_bl, tru_non, tru_int, tru_lst, tru_wls, tru_tup, int_int, back_val', back_own', back_non]
    rw [List.length_map] at z ⊢
    have hl : xs.length - 1 < xs.length := by omega
    rw [List.getElem?_map, List.getElem?_eq_getElem hl]
    simp only [Wp_ret, Wp_no, Wp_bnd, Wp_ite, Raw.stay_val, Raw.stay_bor, Wp_m2, Wp_var, Wp_peek, Wp_move, Wp_frz, Raw.frz_own, Raw.frz_val, Raw.frz_lst, Wp_gI, Wp_gD, Wp_g1, Wp_g2I, Raw.dt_val, Raw.dt_own, Raw.dt_bor, Wp_isa, Wp_bool, Wp_tru, Wp_not, Wp_and, Wp_or, Wp_ofB, Wp_if, Wp_andV, Wp_orV, Wp_un, Wp_nil, Wp_cons, Raw.datas_nil, Raw.datas_cons, Raw.vals_nil, Raw.vals_cons, Wp_tup, Wp_lst, Wp_call, Wp_callO, Wp_set, Wp_app, Wp_pop, Wp_rev, Wp_range1, Wp_range2, Wp_err, Wp_erris, Ws_nx, Ws_bk, Ws_ct, Ws_retN, Ws_expr, Ws_ret, Ws_if, Ws_set, Ws_par, Ws_unp, Ws_raise, Ws_raise0, dEq_ii, dNe_ii, dLen_lst, dLen_wls, dLen_tup, ix_lst, ix_wls, ix_tup', enF, gSet, gTupD, gsCons, gsNil, ↓reduceIte, List.getElem?_cons_zero, List.getElem?_cons_succ, List.getElem?_nil, List.set_cons_zero, List.set_cons_succ, List.set_nil, List.length_cons, List.length_nil, List.replicate, List.cons_append, List.nil_append, List.append_nil, List.take, Option.map_some, decide_eq_true_eq, decide_eq_false_iff_not, Bool.not_eq_true', Bool.not_eq_false', Bool.not_not, Bool.not_true, Bool.not_false, true_and, and_true, false_and, and_false, imp_self, implies_true, not_false_eq_true, not_true_eq_false, true_implies, false_implies, Bool.true_eq_false, Bool.false_eq_true, forall_const, Nat.reduceAdd, Nat.reduceSub, Nat.reduceEqDiff, Nat.reduceLeDiff, mulOk_iff, divOk_iff, modOk_iff, powOk_iff, small_iff, isa_int_non, isa_int_bl, isa_int_int, isa_int_str, isa_int_tup, isa_int_lst, isa_int_wls, isa_int_dic, isa_bool_non, isa_bool_bl, isa_bool_int, isa_bool_str, isa_bool_tup, isa_bool_lst, isa_bool_wls, isa_bool_dic, isa_str_non, isa_str_bl, isa_str_int, isa_str_str, isa_str_tup, isa_str_lst, isa_str_wls, isa_str_dic, isa_list_non, isa_list_bl, isa_list_int, isa_list_str, isa_list_tup, isa_list_lst, isa_list_wls, isa_list_dic, isa_tuple_non, isa_tuple_bl, isa_tuple_int, isa_tuple_str, isa_tuple_tup, isa_tuple_lst, isa_tuple_wls, isa_tuple_dic, isa_list_tuple_non, isa_list_tuple_bl, isa_list_tuple_int, isa_list_tuple_str, isa_list_tuple_tup, isa_list_tuple_lst, isa_list_tuple_wls, isa_list_tuple_dic, isa_int_str_non, isa_int_str_bl, isa_int_str_int, isa_int_str_str, isa_int_str_tup, isa_int_str_lst, isa_int_str_wls, isa_int_str_dic, isa_str_int_non, isa_str_int_bl, isa_str_int_int, isa_str_int_str, isa_str_int_tup, isa_str_int_lst, isa_str_int_wls, isa_str_int_dic, isa_tuple_list_non, isa_tuple_list_bl, isa_tuple_list_int, isa_tuple_list_str, isa_tuple_list_tup, isa_tuple_list_lst, isa_tuple_list_wls, isa_tuple_list_dic, dIsN_bl, dNotN_bl, dIsN_int, dNotN_int, dIsN_str, dNotN_str, dIsN_tup, dNotN_tup, dIsN_lst, dNotN_lst, dIsN_wls, dNotN_wls, dIsN_dic, dNotN_dic, dIsN_non, dNotN_non, tru_bl, tru_non, tru_int, tru_lst, tru_wls, tru_tup, int_int, back_val', back_own', back_non]
    refine ⟨by omega, ?_⟩
    rw [← List.map_dropLast]
    exact q _ xs.dropLast (by rw [fmod_pos h]; exact Int.emod_nonneg _ (by omega)) (by rw [fmod_pos h]; exact Int.emod_lt_of_pos _ h)
theorem w_pool {ns : List Int} (hl : ns.length ≤ 63) (q : ∀ (xs : List Int) ls, Q (.own (.lst (xs.map .int))) ls) : Wo (m_law_pool [.val (.wls (ns.map .int))]) Q E := by
  unfold m_law_pool
  refine wo_fn ?_
  unfold b_law_pool
  refine ws_seq fun K hK => ?_
  simp only [Wp_ret, Wp_no, Wp_bnd, Wp_ite, Raw.stay_val, Raw.stay_bor, Wp_m2, Wp_var, Wp_peek, Wp_move, Wp_frz, Raw.frz_own, Raw.frz_val, Raw.frz_lst, Wp_gI, Wp_gD, Wp_g1, Wp_g2I, Raw.dt_val, Raw.dt_own, Raw.dt_bor, Wp_isa, Wp_bool, Wp_tru, Wp_not, Wp_and, Wp_or, Wp_ofB, Wp_if, Wp_andV, Wp_orV, Wp_un, Wp_nil, Wp_cons, Raw.datas_nil, Raw.datas_cons, Raw.vals_nil, Raw.vals_cons, Wp_tup, Wp_lst, Wp_call, Wp_callO, Wp_set, Wp_app, Wp_pop, Wp_rev, Wp_range1, Wp_range2, Wp_err, Wp_erris, Ws_nx, Ws_bk, Ws_ct, Ws_retN, Ws_expr, Ws_ret, Ws_if, Ws_set, Ws_par, Ws_unp, Ws_raise, Ws_raise0, dEq_ii, dNe_ii, dLen_lst, dLen_wls, dLen_tup, ix_lst, ix_wls, ix_tup', enF, gSet, gTupD, gsCons, gsNil, ↓reduceIte, List.getElem?_cons_zero, List.getElem?_cons_succ, List.getElem?_nil, List.set_cons_zero, List.set_cons_succ, List.set_nil, List.length_cons, List.length_nil, List.replicate, List.cons_append, List.nil_append, List.append_nil, List.take, Option.map_some, decide_eq_true_eq, decide_eq_false_iff_not, Bool.not_eq_true', Bool.not_eq_false', Bool.not_not, Bool.not_true, Bool.not_false, true_and, and_true, false_and, and_false, imp_self, implies_true, not_false_eq_true, not_true_eq_false, true_implies, false_implies, Bool.true_eq_false, Bool.false_eq_true, forall_const, Nat.reduceAdd, Nat.reduceSub, Nat.reduceEqDiff, Nat.reduceLeDiff, mulOk_iff, divOk_iff, modOk_iff, powOk_iff, small_iff, isa_int_non, isa_int_bl, isa_int_int, isa_int_str, isa_int_tup, isa_int_lst, isa_int_wls, isa_int_dic, isa_bool_non, isa_bool_bl, isa_bool_int, isa_bool_str, isa_bool_tup, isa_bool_lst, isa_bool_wls, isa_bool_dic, isa_str_non, isa_str_bl, isa_str_int, isa_str_str, isa_str_tup, isa_str_lst, isa_str_wls, isa_str_dic, isa_list_non, isa_list_bl, isa_list_int, isa_list_str, isa_list_tup, isa_list_lst, isa_list_wls, isa_list_dic, isa_tuple_non, isa_tuple_bl, isa_tuple_int, isa_tuple_str, isa_tuple_tup, isa_tuple_lst, isa_tuple_wls, isa_tuple_dic, isa_list_tuple_non, isa_list_tuple_bl, isa_list_tuple_int, isa_list_tuple_str, isa_list_tuple_tup, isa_list_tuple_lst, isa_list_tuple_wls, isa_list_tuple_dic, isa_int_str_non, isa_int_str_bl, isa_int_str_int, isa_int_str_str, isa_int_str_tup, isa_int_str_lst, isa_int_str_wls, isa_int_str_dic, isa_str_int_non, isa_str_int_bl, isa_str_int_int, isa_str_int_str, isa_str_int_tup, isa_str_int_lst, isa_str_int_wls, isa_str_int_dic, isa_tuple_list_non, isa_tuple_list_bl, isa_tuple_list_int, isa_tuple_list_str, isa_tuple_list_tup, isa_tuple_list_lst, isa_tuple_list_wls, isa_tuple_list_dic, dIsN_bl, dNotN_bl, dIsN_int, dNotN_int, dIsN_str, dNotN_str, dIsN_tup, dNotN_tup, dIsN_lst, dNotN_lst, dIsN_wls, dNotN_wls, dIsN_dic, dNotN_dic, dIsN_non, dNotN_non, tru_bl, tru_non, tru_int, tru_lst, tru_wls, tru_tup, int_int, back_val', back_own', back_non]
  refine hK _ ?_
  refine ws_seq fun K2 hK2 => ?_
  refine ws_for ?_
  simp only [Wp_ret, Wp_no, Wp_bnd, Wp_ite, Raw.stay_val, Raw.stay_bor, Wp_m2, Wp_var, Wp_peek, Wp_move, Wp_frz, Raw.frz_own, Raw.frz_val, Raw.frz_lst, Wp_gI, Wp_gD, Wp_g1, Wp_g2I, Raw.dt_val, Raw.dt_own, Raw.dt_bor, Wp_isa, Wp_bool, Wp_tru, Wp_not, Wp_and, Wp_or, Wp_ofB, Wp_if, Wp_andV, Wp_orV, Wp_un, Wp_nil, Wp_cons, Raw.datas_nil, Raw.datas_cons, Raw.vals_nil, Raw.vals_cons, Wp_tup, Wp_lst, Wp_call, Wp_callO, Wp_set, Wp_app, Wp_pop, Wp_rev, Wp_range1, Wp_range2, Wp_err, Wp_erris, Ws_nx, Ws_bk, Ws_ct, Ws_retN, Ws_expr, Ws_ret, Ws_if, Ws_set, Ws_par, Ws_unp, Ws_raise, Ws_raise0, dEq_ii, dNe_ii, dLen_lst, dLen_wls, dLen_tup, ix_lst, ix_wls, ix_tup', enF, gSet, gTupD, gsCons, gsNil, ↓reduceIte, List.getElem?_cons_zero, List.getElem?_cons_succ, List.getElem?_nil, List.set_cons_zero, List.set_cons_succ, List.set_nil, List.length_cons, List.length_nil, List.replicate, List.cons_append, List.nil_append, List.append_nil, List.take, Option.map_some, decide_eq_true_eq, decide_eq_false_iff_not, Bool.not_eq_true', Bool.not_eq_false', Bool.not_not, Bool.not_true, Bool.not_false, true_and, and_true, false_and, and_false, imp_self, implies_true, not_false_eq_true, not_true_eq_false, true_implies, false_implies, Bool.true_eq_false, Bool.false_eq_true, forall_const, Nat.reduceAdd, Nat.reduceSub, Nat.reduceEqDiff, Nat.reduceLeDiff, mulOk_iff, divOk_iff, modOk_iff, powOk_iff, small_iff, isa_int_non, isa_int_bl, isa_int_int, isa_int_str, isa_int_tup, isa_int_lst, isa_int_wls, isa_int_dic, isa_bool_non, isa_bool_bl, isa_bool_int, isa_bool_str, isa_bool_tup, isa_bool_lst, isa_bool_wls, isa_bool_dic, isa_str_non, isa_str_bl, isa_str_int, isa_str_str, isa_str_tup, isa_str_lst, isa_str_wls, isa_str_dic, isa_list_non, isa_list_bl, isa_list_int, isa_list_str, isa_list_tup, isa_list_lst, isa_list_wls, isa_list_dic, isa_tuple_non, isa_tuple_bl, isa_tuple_int, isa_tuple_str, isa_tuple_tup, isa_tuple_lst, isa_tuple_wls, isa_tuple_dic, isa_list_tuple_non, isa_list_tuple_bl, isa_list_tuple_int, isa_list_tuple_str, isa_list_tuple_tup, isa_list_tuple_lst, isa_list_tuple_wls, isa_list_tuple_dic, isa_int_str_non, isa_int_str_bl, isa_int_str_int, isa_int_str_str, isa_int_str_tup, isa_int_str_lst, isa_int_str_wls, isa_int_str_dic, isa_str_int_non, isa_str_int_bl, isa_str_int_int, isa_str_int_str, isa_str_int_tup, isa_str_int_lst, isa_str_int_wls, isa_str_int_dic, isa_tuple_list_non, isa_tuple_list_bl, isa_tuple_list_int, isa_tuple_list_str, isa_tuple_list_tup, isa_tuple_list_lst, isa_tuple_list_wls, isa_tuple_list_dic, dIsN_bl, dNotN_bl, dIsN_int, dNotN_int, dIsN_str, dNotN_str, dIsN_tup, dNotN_tup, dIsN_lst, dNotN_lst, dIsN_wls, dNotN_wls, dIsN_dic, dNotN_dic, dIsN_non, dNotN_non, tru_bl, tru_non, tru_int, tru_lst, tru_wls, tru_tup, int_int, back_val', back_own', back_non, List.length_map]
  refine ⟨by omega, ?_⟩
  refine ws_forR (fun i ρ => ∃ (xs : List Int) (a b c d : L), xs.length ≤ 48 * i.toNat ∧ ρ = [.val (.wls (ns.map .int)), .own (.lst (xs.map .int)), a, b, c, d]) ⟨[], _, _, _, _, by simp, rfl⟩ (by omega) ?_ ?_
  · rintro i ρ h0 h1 ⟨xs, a, b, c, d, hx, rfl⟩
    have hi : i.toNat < ns.length := by omega
    have hb : xs.length ≤ 48 * 62 := by omega
    simp only [Wp_ret, Wp_no, Wp_bnd, Wp_ite, Raw.stay_val, Raw.stay_bor, Wp_m2, Wp_var, Wp_peek, Wp_move, Wp_frz, Raw.frz_own, Raw.frz_val, Raw.frz_lst, Wp_gI, Wp_gD, Wp_g1, Wp_g2I, Raw.dt_val, Raw.dt_own, Raw.dt_bor, Wp_isa, Wp_bool, Wp_tru, Wp_not, Wp_and, Wp_or, Wp_ofB, Wp_if, Wp_andV, Wp_orV, Wp_un, Wp_nil, Wp_cons, Raw.datas_nil, Raw.datas_cons, Raw.vals_nil, Raw.vals_cons, Wp_tup, Wp_lst, Wp_call, Wp_callO, Wp_set, Wp_app, Wp_pop, Wp_rev, Wp_range1, Wp_range2, Wp_err, Wp_erris, Ws_nx, Ws_bk, Ws_ct, Ws_retN, Ws_expr, Ws_ret, Ws_if, Ws_set, Ws_par, Ws_unp, Ws_raise, Ws_raise0, dEq_ii, dNe_ii, dLen_lst, dLen_wls, dLen_tup, ix_lst, ix_wls, ix_tup', enF, gSet, gTupD, gsCons, gsNil, ↓reduceIte, List.getElem?_cons_zero, List.getElem?_cons_succ, List.getElem?_nil, List.set_cons_zero, List.set_cons_succ, List.set_nil, List.length_cons, List.length_nil, List.replicate, List.cons_append, List.nil_append, List.append_nil, List.take, Option.map_some, decide_eq_true_eq, decide_eq_false_iff_not, Bool.not_eq_true', Bool.not_eq_false', Bool.not_not, Bool.not_true, Bool.not_false, true_and, and_true, false_and, and_false, imp_self, implies_true, not_false_eq_true, not_true_eq_false, true_implies, false_implies, Bool.true_eq_false, Bool.false_eq_true, forall_const, Nat.reduceAdd, Nat.reduceSub, Nat.reduceEqDiff, Nat.reduceLeDiff, mulOk_iff, divOk_iff, modOk_iff, powOk_iff, small_iff, isa_int_non, isa_int_bl, isa_int_int, isa_int_str, isa_int_tup, isa_int_lst, isa_int_wls, isa_int_dic, isa_bool_non, isa_bool_bl, isa_bool_int, isa_bool_str, isa_bool_tup, isa_bool_lst, isa_bool_wls, isa_bool_dic, isa_str_non, isa_str_bl, isa_str_int, isa_str_str, isa_str_tup, isa_str_lst, isa_str_wls, isa_str_dic, isa_list_non, isa_list_bl, isa_list_int, isa_list_str, isa_list_tup, isa_list_lst, isa_list_wls, isa_list_dic, isa_tuple_non, isa_tuple_bl, isa_tuple_int, isa_tuple_str, isa_tuple_tup, isa_tuple_lst, isa_tuple_wls, isa_tuple_dic, isa_list_tuple_non, isa_list_tuple_bl, isa_list_tuple_int, isa_list_tuple_str, isa_list_tuple_tup, isa_list_tuple_lst, isa_list_tuple_wls, isa_list_tuple_dic, isa_int_str_non, isa_int_str_bl, isa_int_str_int, isa_int_str_str, isa_int_str_tup, isa_int_str_lst, isa_int_str_wls, isa_int_str_dic, isa_str_int_non, isa_str_int_bl, isa_str_int_int, isa_str_int_str, isa_str_int_tup, isa_str_int_lst, isa_str_int_wls, isa_str_int_dic, isa_tuple_list_non, isa_tuple_list_bl, isa_tuple_list_int, isa_tuple_list_str, isa_tuple_list_tup, isa_tuple_list_lst, isa_tuple_list_wls, isa_tuple_list_dic, dIsN_bl, dNotN_bl, dIsN_int, dNotN_int, dIsN_str, dNotN_str, dIsN_tup, dNotN_tup, dIsN_lst, dNotN_lst, dIsN_wls, dNotN_wls, dIsN_dic, dNotN_dic, dIsN_non, dNotN_non, tru_bl, tru_non, tru_int, tru_lst, tru_wls, tru_tup, int_int, back_val', back_own', back_non]
    refine ws_seq fun K3 hK3 => ?_
    simp only [Wp_ret, Wp_no, Wp_bnd, Wp_ite, Raw.stay_val, Raw.stay_bor, Wp_m2, Wp_var, Wp_peek, Wp_move, Wp_frz, Raw.frz_own, Raw.frz_val, Raw.frz_lst, Wp_gI, Wp_gD, Wp_g1, Wp_g2I, Raw.dt_val, Raw.dt_own, Raw.dt_bor, Wp_isa, Wp_bool, Wp_tru, Wp_not, Wp_and, Wp_or, Wp_ofB, Wp_if, Wp_andV, Wp_orV, Wp_un, Wp_nil, Wp_cons, Raw.datas_nil, Raw.datas_cons, Raw.vals_nil, Raw.vals_cons, Wp_tup, Wp_lst, Wp_call, Wp_callO, Wp_set, Wp_app, Wp_pop, Wp_rev, Wp_range1, Wp_range2, Wp_err, Wp_erris, Ws_nx, Ws_bk, Ws_ct, Ws_retN, Ws_expr, Ws_ret, Ws_if, Ws_set, Ws_par, Ws_unp, Ws_raise, Ws_raise0, dEq_ii, dNe_ii, dLen_lst, dLen_wls, dLen_tup, ix_lst, ix_wls, ix_tup', enF, gSet, gTupD, gsCons, gsNil, ↓reduceIte, List.getElem?_cons_zero, List.getElem?_cons_succ, List.getElem?_nil, List.set_cons_zero, List.set_cons_succ, List.set_nil, List.length_cons, List.length_nil, List.replicate, List.cons_append, List.nil_append, List.append_nil, List.take, Option.map_some, decide_eq_true_eq, decide_eq_false_iff_not, Bool.not_eq_true', Bool.not_eq_false', Bool.not_not, Bool.not_true, Bool.not_false, true_and, and_true, false_and, and_false, imp_self, implies_true, not_false_eq_true, not_true_eq_false, true_implies, false_implies, Bool.true_eq_false, Bool.false_eq_true, forall_const, Nat.reduceAdd, Nat.reduceSub, Nat.reduceEqDiff, Nat.reduceLeDiff, mulOk_iff, divOk_iff, modOk_iff, powOk_iff, small_iff, isa_int_non, isa_int_bl, isa_int_int, isa_int_str, isa_int_tup, isa_int_lst, isa_int_wls, isa_int_dic, isa_bool_non, isa_bool_bl, isa_bool_int, isa_bool_str, isa_bool_tup, isa_bool_lst, isa_bool_wls, isa_bool_dic, isa_str_non, isa_str_bl, isa_str_int, isa_str_str, isa_str_tup, isa_str_lst, isa_str_wls, isa_str_dic, isa_list_non, isa_list_bl, isa_list_int, isa_list_str, isa_list_tup, isa_list_lst, isa_list_wls, isa_list_dic, isa_tuple_non, isa_tuple_bl, isa_tuple_int, isa_tuple_str, isa_tuple_tup, isa_tuple_lst, isa_tuple_wls, isa_tuple_dic, isa_list_tuple_non, isa_list_tuple_bl, isa_list_tuple_int, isa_list_tuple_str, isa_list_tuple_tup, isa_list_tuple_lst, isa_list_tuple_wls, isa_list_tuple_dic, isa_int_str_non, isa_int_str_bl, isa_int_str_int, isa_int_str_str, isa_int_str_tup, isa_int_str_lst, isa_int_str_wls, isa_int_str_dic, isa_str_int_non, isa_str_int_bl, isa_str_int_int, isa_str_int_str, isa_str_int_tup, isa_str_int_lst, isa_str_int_wls, isa_str_int_dic, isa_tuple_list_non, isa_tuple_list_bl, isa_tuple_list_int, isa_tuple_list_str, isa_tuple_list_tup, isa_tuple_list_lst, isa_tuple_list_wls, isa_tuple_list_dic, dIsN_bl, dNotN_bl, dIsN_int, dNotN_int, dIsN_str, dNotN_str, dIsN_tup, dNotN_tup, dIsN_lst, dNotN_lst, dIsN_wls, dNotN_wls, dIsN_dic, dNotN_dic, dIsN_non, dNotN_non, tru_bl, tru_non, tru_int, tru_lst, tru_wls, tru_tup, int_int, back_val', back_own', back_non, atI_nat h0, List.getElem?_map, List.getElem?_eq_getElem hi]
    refine hK3 _ ?_
    refine ws_seq fun K4 hK4 => ?_
    have key : ∀ cell : Int, K4 [.val (.wls (ns.map .int)), .own (.lst (xs.map .int)), .val (.int i), .val (.int cell), c, d] := by
      intro cell
      refine hK4 _ ?_
      simp only [Wp_ret, Wp_no, Wp_bnd, Wp_ite, Raw.stay_val, Raw.stay_bor, Wp_m2, Wp_var, Wp_peek, Wp_move, Wp_frz, Raw.frz_own, Raw.frz_val, Raw.frz_lst, Wp_gI, Wp_gD, Wp_g1, Wp_g2I, Raw.dt_val, Raw.dt_own, Raw.dt_bor, Wp_isa, Wp_bool, Wp_tru, Wp_not, Wp_and, Wp_or, Wp_ofB, Wp_if, Wp_andV, Wp_orV, Wp_un, Wp_nil, Wp_cons, Raw.datas_nil, Raw.datas_cons, Raw.vals_nil, Raw.vals_cons, Wp_tup, Wp_lst, Wp_call, Wp_callO, Wp_set, Wp_app, Wp_pop, Wp_rev, Wp_range1, Wp_range2, Wp_err, Wp_erris, Ws_nx, Ws_bk, Ws_ct, Ws_retN, Ws_expr, Ws_ret, Ws_if, Ws_set, Ws_par, Ws_unp, Ws_raise, Ws_raise0, dEq_ii, dNe_ii, dLen_lst, dLen_wls, dLen_tup, ix_lst, ix_wls, ix_tup', enF, gSet, gTupD, gsCons, gsNil, ↓reduceIte, List.getElem?_cons_zero, List.getElem?_cons_succ, List.getElem?_nil, List.set_cons_zero, List.set_cons_succ, List.set_nil, List.length_cons, List.length_nil, List.replicate, List.cons_append, List.nil_append, List.append_nil, List.take, Option.map_some, decide_eq_true_eq, decide_eq_false_iff_not, Bool.not_eq_true', Bool.not_eq_false', Bool.not_not, Bool.not_true, Bool.not_false, true_and, and_true, false_and, and_false, imp_self, implies_true, not_false_eq_true, not_true_eq_false, true_implies, false_implies, Bool.true_eq_false, Bool.false_eq_true, forall_const, Nat.reduceAdd, Nat.reduceSub, Nat.reduceEqDiff, Nat.reduceLeDiff, mulOk_iff, divOk_iff, modOk_iff, powOk_iff, small_iff, isa_int_non, isa_int_bl, isa_int_int, isa_int_str, isa_int_tup, isa_int_lst, isa_int_wls, isa_int_dic, isa_bool_non, isa_bool_bl, isa_bool_int, isa_bool_str, isa_bool_tup, isa_bool_lst, isa_bool_wls, isa_bool_dic, isa_str_non, isa_str_bl, isa_str_int, isa_str_str, isa_str_tup, isa_str_lst, isa_str_wls, isa_str_dic, isa_list_non, isa_list_bl, isa_list_int, isa_list_str, isa_list_tup, isa_list_lst, isa_list_wls, isa_list_dic, isa_tuple_non, isa_tuple_bl, isa_tuple_int, isa_tuple_str, isa_tuple_tup, isa_tuple_lst, isa_tuple_wls, isa_tuple_dic, isa_list_tuple_non, isa_list_tuple_bl, isa_list_tuple_int, isa_list_tuple_str, isa_list_tuple_tup, isa_list_tuple_lst, isa_list_tuple_wls, isa_list_tuple_dic, isa_int_str_non, isa_int_str_bl, isa_int_str_int, isa_int_str_str, isa_int_str_tup, isa_int_str_lst, isa_int_str_wls, isa_int_str_dic, isa_str_int_non, isa_str_int_bl, isa_str_int_int, isa_str_int_str, isa_str_int_tup, isa_str_int_lst, isa_str_int_wls, isa_str_int_dic, isa_tuple_list_non, isa_tuple_list_bl, isa_tuple_list_int, isa_tuple_list_str, isa_tuple_list_tup, isa_tuple_list_lst, isa_tuple_list_wls, isa_tuple_list_dic, dIsN_bl, dNotN_bl, dIsN_int, dNotN_int, dIsN_str, dNotN_str, dIsN_tup, dNotN_tup, dIsN_lst, dNotN_lst, dIsN_wls, dNotN_wls, dIsN_dic, dNotN_dic, dIsN_non, dNotN_non, tru_bl, tru_non, tru_int, tru_lst, tru_wls, tru_tup, int_int, back_val', back_own', back_non]
      refine ⟨by decide, fun hc => ?_, fun hc => ?_⟩
      · refine ws_for ?_
        simp only [Wp_ret, Wp_no, Wp_bnd, Wp_ite, Raw.stay_val, Raw.stay_bor, Wp_m2, Wp_var, Wp_peek, Wp_move, Wp_frz, Raw.frz_own, Raw.frz_val, Raw.frz_lst, Wp_gI, Wp_gD, Wp_g1, Wp_g2I, Raw.dt_val, Raw.dt_own, Raw.dt_bor, Wp_isa, Wp_bool, Wp_tru, Wp_not, Wp_and, Wp_or, Wp_ofB, Wp_if, Wp_andV, Wp_orV, Wp_un, Wp_nil, Wp_cons, Raw.datas_nil, Raw.datas_cons, Raw.vals_nil, Raw.vals_cons, Wp_tup, Wp_lst, Wp_call, Wp_callO, Wp_set, Wp_app, Wp_pop, Wp_rev, Wp_range1, Wp_range2, Wp_err, Wp_erris, Ws_nx, Ws_bk, Ws_ct, Ws_retN, Ws_expr, Ws_ret, Ws_if, Ws_set, Ws_par, Ws_unp, Ws_raise, Ws_raise0, dEq_ii, dNe_ii, dLen_lst, dLen_wls, dLen_tup, ix_lst, ix_wls, ix_tup', enF, gSet, gTupD, gsCons, gsNil, ↓reduceIte, List.getElem?_cons_zero, List.getElem?_cons_succ, List.getElem?_nil, List.set_cons_zero, List.set_cons_succ, List.set_nil, List.length_cons, List.length_nil, List.replicate, List.cons_append, List.nil_append, List.append_nil, List.take, Option.map_some, decide_eq_true_eq, decide_eq_false_iff_not, Bool.not_eq_true', Bool.not_eq_false', Bool.not_not, Bool.not_true, Bool.not_false, true_and, and_true, false_and, and_false, imp_self, implies_true, not_false_eq_true, not_true_eq_false, true_implies, false_implies, Bool.true_eq_false, Bool.false_eq_true, forall_const, Nat.reduceAdd, Nat.reduceSub, Nat.reduceEqDiff, Nat.reduceLeDiff, mulOk_iff, divOk_iff, modOk_iff, powOk_iff, small_iff, isa_int_non, isa_int_bl, isa_int_int, isa_int_str, isa_int_tup, isa_int_lst, isa_int_wls, isa_int_dic, isa_bool_non, isa_bool_bl, isa_bool_int, isa_bool_str, isa_bool_tup, isa_bool_lst, isa_bool_wls, isa_bool_dic, isa_str_non, isa_str_bl, isa_str_int, isa_str_str, isa_str_tup, isa_str_lst, isa_str_wls, isa_str_dic, isa_list_non, isa_list_bl, isa_list_int, isa_list_str, isa_list_tup, isa_list_lst, isa_list_wls, isa_list_dic, isa_tuple_non, isa_tuple_bl, isa_tuple_int, isa_tuple_str, isa_tuple_tup, isa_tuple_lst, isa_tuple_wls, isa_tuple_dic, isa_list_tuple_non, isa_list_tuple_bl, isa_list_tuple_int, isa_list_tuple_str, isa_list_tuple_tup, isa_list_tuple_lst, isa_list_tuple_wls, isa_list_tuple_dic, isa_int_str_non, isa_int_str_bl, isa_int_str_int, isa_int_str_str, isa_int_str_tup, isa_int_str_lst, isa_int_str_wls, isa_int_str_dic, isa_str_int_non, isa_str_int_bl, isa_str_int_int, isa_str_int_str, isa_str_int_tup, isa_str_int_lst, isa_str_int_wls, isa_str_int_dic, isa_tuple_list_non, isa_tuple_list_bl, isa_tuple_list_int, isa_tuple_list_str, isa_tuple_list_tup, isa_tuple_list_lst, isa_tuple_list_wls, isa_tuple_list_dic, dIsN_bl, dNotN_bl, dIsN_int, dNotN_int, dIsN_str, dNotN_str, dIsN_tup, dNotN_tup, dIsN_lst, dNotN_lst, dIsN_wls, dNotN_wls, dIsN_dic, dNotN_dic, dIsN_non, dNotN_non, tru_bl, tru_non, tru_int, tru_lst, tru_wls, tru_tup, int_int, back_val', back_own', back_non]
        refine ⟨by decide, ?_⟩
        refine ws_forR (fun k ρ => ∃ (ys : List Int) (n : Int) (x : L), ys.length ≤ 48 * i.toNat + k.toNat ∧ ρ = [.val (.wls (ns.map .int)), .own (.lst (ys.map .int)), .val (.int i), .val (.int n), x, d]) ⟨xs, _, _, by simpa using hx, rfl⟩ (by decide) ?_ ?_
        · rintro k ρ g0 g1 ⟨ys, n, x, hy, rfl⟩
          simp only [Wp_ret, Wp_no, Wp_bnd, Wp_ite, Raw.stay_val, Raw.stay_bor, Wp_m2, Wp_var, Wp_peek, Wp_move, Wp_frz, Raw.frz_own, Raw.frz_val, Raw.frz_lst, Wp_gI, Wp_gD, Wp_g1, Wp_g2I, Raw.dt_val, Raw.dt_own, Raw.dt_bor, Wp_isa, Wp_bool, Wp_tru, Wp_not, Wp_and, Wp_or, Wp_ofB, Wp_if, Wp_andV, Wp_orV, Wp_un, Wp_nil, Wp_cons, Raw.datas_nil, Raw.datas_cons, Raw.vals_nil, Raw.vals_cons, Wp_tup, Wp_lst, Wp_call, Wp_callO, Wp_set, Wp_app, Wp_pop, Wp_rev, Wp_range1, Wp_range2, Wp_err, Wp_erris, Ws_nx, Ws_bk, Ws_ct, Ws_retN, Ws_expr, Ws_ret, Ws_if, Ws_set, Ws_par, Ws_unp, Ws_raise, Ws_raise0, dEq_ii, dNe_ii, dLen_lst, dLen_wls, dLen_tup, ix_lst, ix_wls, ix_tup', enF, gSet, gTupD, gsCons, gsNil, ↓reduceIte, List.getElem?_cons_zero, List.getElem?_cons_succ, List.getElem?_nil, List.set_cons_zero, List.set_cons_succ, List.set_nil, List.length_cons, List.length_nil, List.replicate, List.cons_append, List.nil_append, List.append_nil, List.take, Option.map_some, decide_eq_true_eq, decide_eq_false_iff_not, Bool.not_eq_true', Bool.not_eq_false', Bool.not_not, Bool.not_true, Bool.not_false, true_and, and_true, false_and, and_false, imp_self, implies_true, not_false_eq_true, not_true_eq_false, true_implies, false_implies, Bool.true_eq_false, Bool.false_eq_true, forall_const, Nat.reduceAdd, Nat.reduceSub, Nat.reduceEqDiff, Nat.reduceLeDiff, mulOk_iff, divOk_iff, modOk_iff, powOk_iff, small_iff, isa_int_non, isa_int_bl, isa_int_int, isa_int_str, isa_int_tup, isa_int_lst, isa_int_wls, isa_int_dic, isa_bool_non, isa_bool_bl, isa_bool_int, isa_bool_str, isa_bool_tup, isa_bool_lst, isa_bool_wls, isa_bool_dic, isa_str_non, isa_str_bl, isa_str_int, isa_str_str, isa_str_tup, isa_str_lst, isa_str_wls, isa_str_dic, isa_list_non, isa_list_bl, isa_list_int, isa_list_str, isa_list_tup, isa_list_lst, isa_list_wls, isa_list_dic, isa_tuple_non, isa_tuple_bl, isa_tuple_int, isa_tuple_str, isa_tuple_tup, isa_tuple_lst, isa_tuple_wls, isa_tuple_dic, isa_list_tuple_non, isa_list_tuple_bl, isa_list_tuple_int, isa_list_tuple_str, isa_list_tuple_tup, isa_list_tuple_lst, isa_list_tuple_wls, isa_list_tuple_dic, isa_int_str_non, isa_int_str_bl, isa_int_str_int, isa_int_str_str, isa_int_str_tup, isa_int_str_lst, isa_int_str_wls, isa_int_str_dic, isa_str_int_non, isa_str_int_bl, isa_str_int_int, isa_str_int_str, isa_str_int_tup, isa_str_int_lst, isa_str_int_wls, isa_str_int_dic, isa_tuple_list_non, isa_tuple_list_bl, isa_tuple_list_int, isa_tuple_list_str, isa_tuple_list_tup, isa_tuple_list_lst, isa_tuple_list_wls, isa_tuple_list_dic, dIsN_bl, dNotN_bl, dIsN_int, dNotN_int, dIsN_str, dNotN_str, dIsN_tup, dNotN_tup, dIsN_lst, dNotN_lst, dIsN_wls, dNotN_wls, dIsN_dic, dNotN_dic, dIsN_non, dNotN_non, tru_bl, tru_non, tru_int, tru_lst, tru_wls, tru_tup, int_int, back_val', back_own', back_non]
          refine ⟨fun hn => ?_, fun _ => ⟨ys, n, _, by omega, rfl⟩⟩
          refine ws_seq fun K5 hK5 => ?_
          simp only [Wp_ret, Wp_no, Wp_bnd, Wp_ite, Raw.stay_val, Raw.stay_bor, Wp_m2, Wp_var, Wp_peek, Wp_move, Wp_frz, Raw.frz_own, Raw.frz_val, Raw.frz_lst, Wp_gI, Wp_gD, Wp_g1, Wp_g2I, Raw.dt_val, Raw.dt_own, Raw.dt_bor, Wp_isa, Wp_bool, Wp_tru, Wp_not, Wp_and, Wp_or, Wp_ofB, Wp_if, Wp_andV, Wp_orV, Wp_un, Wp_nil, Wp_cons, Raw.datas_nil, Raw.datas_cons, Raw.vals_nil, Raw.vals_cons, Wp_tup, Wp_lst, Wp_call, Wp_callO, Wp_set, Wp_app, Wp_pop, Wp_rev, Wp_range1, Wp_range2, Wp_err, Wp_erris, Ws_nx, Ws_bk, Ws_ct, Ws_retN, Ws_expr, Ws_ret, Ws_if, Ws_set, Ws_par, Ws_unp, Ws_raise, Ws_raise0, dEq_ii, dNe_ii, dLen_lst, dLen_wls, dLen_tup, ix_lst, ix_wls, ix_tup', enF, gSet, gTupD, gsCons, gsNil, ↓reduceIte, List.getElem?_cons_zero, List.getElem?_cons_succ, List.getElem?_nil, List.set_cons_zero, List.set_cons_succ, List.set_nil, List.length_cons, List.length_nil, List.replicate, List.cons_append, List.nil_append, List.append_nil, List.take, Option.map_some, decide_eq_true_eq, decide_eq_false_iff_not, Bool.not_eq_true', Bool.not_eq_false', Bool.not_not, Bool.not_true, Bool.not_false, true_and, and_true, false_and, and_false, imp_self, implies_true, not_false_eq_true, not_true_eq_false, true_implies, false_implies, Bool.true_eq_false, Bool.false_eq_true, forall_const, Nat.reduceAdd, Nat.reduceSub, Nat.reduceEqDiff, Nat.reduceLeDiff, mulOk_iff, divOk_iff, modOk_iff, powOk_iff, small_iff, isa_int_non, isa_int_bl, isa_int_int, isa_int_str, isa_int_tup, isa_int_lst, isa_int_wls, isa_int_dic, isa_bool_non, isa_bool_bl, isa_bool_int, isa_bool_str, isa_bool_tup, isa_bool_lst, isa_bool_wls, isa_bool_dic, isa_str_non, isa_str_bl, isa_str_int, isa_str_str, isa_str_tup, isa_str_lst, isa_str_wls, isa_str_dic, isa_list_non, isa_list_bl, isa_list_int, isa_list_str, isa_list_tup, isa_list_lst, isa_list_wls, isa_list_dic, isa_tuple_non, isa_tuple_bl, isa_tuple_int, isa_tuple_str, isa_tuple_tup, isa_tuple_lst, isa_tuple_wls, isa_tuple_dic, isa_list_tuple_non, isa_list_tuple_bl, isa_list_tuple_int, isa_list_tuple_str, isa_list_tuple_tup, isa_list_tuple_lst, isa_list_tuple_wls, isa_list_tuple_dic, isa_int_str_non, isa_int_str_bl, isa_int_str_int, isa_int_str_str, isa_int_str_tup, isa_int_str_lst, isa_int_str_wls, isa_int_str_dic, isa_str_int_non, isa_str_int_bl, isa_str_int_int, isa_str_int_str, isa_str_int_tup, isa_str_int_lst, isa_str_int_wls, isa_str_int_dic, isa_tuple_list_non, isa_tuple_list_bl, isa_tuple_list_int, isa_tuple_list_str, isa_tuple_list_tup, isa_tuple_list_lst, isa_tuple_list_wls, isa_tuple_list_dic, dIsN_bl, dNotN_bl, dIsN_int, dNotN_int, dIsN_str, dNotN_str, dIsN_tup, dNotN_tup, dIsN_lst, dNotN_lst, dIsN_wls, dNotN_wls, dIsN_dic, dNotN_dic, dIsN_non, dNotN_non, tru_bl, tru_non, tru_int, tru_lst, tru_wls, tru_tup, int_int, back_val', back_own', back_non, List.length_map]
          refine ⟨by decide, by omega, hK5 _ ?_⟩
          simp only [Wp_ret, Wp_no, Wp_bnd, Wp_ite, Raw.stay_val, Raw.stay_bor, Wp_m2, Wp_var, Wp_peek, Wp_move, Wp_frz, Raw.frz_own, Raw.frz_val, Raw.frz_lst, Wp_gI, Wp_gD, Wp_g1, Wp_g2I, Raw.dt_val, Raw.dt_own, Raw.dt_bor, Wp_isa, Wp_bool, Wp_tru, Wp_not, Wp_and, Wp_or, Wp_ofB, Wp_if, Wp_andV, Wp_orV, Wp_un, Wp_nil, Wp_cons, Raw.datas_nil, Raw.datas_cons, Raw.vals_nil, Raw.vals_cons, Wp_tup, Wp_lst, Wp_call, Wp_callO, Wp_set, Wp_app, Wp_pop, Wp_rev, Wp_range1, Wp_range2, Wp_err, Wp_erris, Ws_nx, Ws_bk, Ws_ct, Ws_retN, Ws_expr, Ws_ret, Ws_if, Ws_set, Ws_par, Ws_unp, Ws_raise, Ws_raise0, dEq_ii, dNe_ii, dLen_lst, dLen_wls, dLen_tup, ix_lst, ix_wls, ix_tup', enF, gSet, gTupD, gsCons, gsNil, ↓reduceIte, List.getElem?_cons_zero, List.getElem?_cons_succ, List.getElem?_nil, List.set_cons_zero, List.set_cons_succ, List.set_nil, List.length_cons, List.length_nil, List.replicate, List.cons_append, List.nil_append, List.append_nil, List.take, Option.map_some, decide_eq_true_eq, decide_eq_false_iff_not, Bool.not_eq_true', Bool.not_eq_false', Bool.not_not, Bool.not_true, Bool.not_false, true_and, and_true, false_and, and_false, imp_self, implies_true, not_false_eq_true, not_true_eq_false, true_implies, false_implies, Bool.true_eq_false, Bool.false_eq_true, forall_const, Nat.reduceAdd, Nat.reduceSub, Nat.reduceEqDiff, Nat.reduceLeDiff, mulOk_iff, divOk_iff, modOk_iff, powOk_iff, small_iff, isa_int_non, isa_int_bl, isa_int_int, isa_int_str, isa_int_tup, isa_int_lst, isa_int_wls, isa_int_dic, isa_bool_non, isa_bool_bl, isa_bool_int, isa_bool_str, isa_bool_tup, isa_bool_lst, isa_bool_wls, isa_bool_dic, isa_str_non, isa_str_bl, isa_str_int, isa_str_str, isa_str_tup, isa_str_lst, isa_str_wls, isa_str_dic, isa_list_non, isa_list_bl, isa_list_int, isa_list_str, isa_list_tup, isa_list_lst, isa_list_wls, isa_list_dic, isa_tuple_non, isa_tuple_bl, isa_tuple_int, isa_tuple_str, isa_tuple_tup, isa_tuple_lst, isa_tuple_wls, isa_tuple_dic, isa_list_tuple_non, isa_list_tuple_bl, isa_list_tuple_int, isa_list_tuple_str, isa_list_tuple_tup, isa_list_tuple_lst, isa_list_tuple_wls, isa_list_tuple_dic, isa_int_str_non, isa_int_str_bl, isa_int_str_int, isa_int_str_str, isa_int_str_tup, isa_int_str_lst, isa_int_str_wls, isa_int_str_dic, isa_str_int_non, isa_str_int_bl, isa_str_int_int, isa_str_int_str, isa_str_int_tup, isa_str_int_lst, isa_str_int_wls, isa_str_int_dic, isa_tuple_list_non, isa_tuple_list_bl, isa_tuple_list_int, isa_tuple_list_str, isa_tuple_list_tup, isa_tuple_list_lst, isa_tuple_list_wls, isa_tuple_list_dic, dIsN_bl, dNotN_bl, dIsN_int, dNotN_int, dIsN_str, dNotN_str, dIsN_tup, dNotN_tup, dIsN_lst, dNotN_lst, dIsN_wls, dNotN_wls, dIsN_dic, dNotN_dic, dIsN_non, dNotN_non, tru_bl, tru_non, tru_int, tru_lst, tru_wls, tru_tup, int_int, back_val', back_own', back_non]
          exact ⟨by decide, ys ++ [n.fmod 30], _, _, by rw [List.length_append, List.length_singleton]; omega, by rw [List.map_append]; rfl⟩
        · rintro ρ ⟨ys, n, x, hy, rfl⟩
          exact ⟨ys, _, _, _, _, by omega, rfl⟩
      · refine ws_seq fun K5 hK5 => ?_
        simp only [Wp_ret, Wp_no, Wp_bnd, Wp_ite, Raw.stay_val, Raw.stay_bor, Wp_m2, Wp_var, Wp_peek, Wp_move, Wp_frz, Raw.frz_own, Raw.frz_val, Raw.frz_lst, Wp_gI, Wp_gD, Wp_g1, Wp_g2I, Raw.dt_val, Raw.dt_own, Raw.dt_bor, Wp_isa, Wp_bool, Wp_tru, Wp_not, Wp_and, Wp_or, Wp_ofB, Wp_if, Wp_andV, Wp_orV, Wp_un, Wp_nil, Wp_cons, Raw.datas_nil, Raw.datas_cons, Raw.vals_nil, Raw.vals_cons, Wp_tup, Wp_lst, Wp_call, Wp_callO, Wp_set, Wp_app, Wp_pop, Wp_rev, Wp_range1, Wp_range2, Wp_err, Wp_erris, Ws_nx, Ws_bk, Ws_ct, Ws_retN, Ws_expr, Ws_ret, Ws_if, Ws_set, Ws_par, Ws_unp, Ws_raise, Ws_raise0, dEq_ii, dNe_ii, dLen_lst, dLen_wls, dLen_tup, ix_lst, ix_wls, ix_tup', enF, gSet, gTupD, gsCons, gsNil, ↓reduceIte, List.getElem?_cons_zero, List.getElem?_cons_succ, List.getElem?_nil, List.set_cons_zero, List.set_cons_succ, List.set_nil, List.length_cons, List.length_nil, List.replicate, List.cons_append, List.nil_append, List.append_nil, List.take, Option.map_some, decide_eq_true_eq, decide_eq_false_iff_not, Bool.not_eq_true', Bool.not_eq_false', Bool.not_not, Bool.not_true, Bool.not_false, true_and, and_true, false_and, and_false, imp_self, implies_true, not_false_eq_true, not_true_eq_false, true_implies, false_implies, Bool.true_eq_false, Bool.false_eq_true, forall_const, Nat.reduceAdd, Nat.reduceSub, Nat.reduceEqDiff, Nat.reduceLeDiff, mulOk_iff, divOk_iff, modOk_iff, powOk_iff, small_iff, isa_int_non, isa_int_bl, isa_int_int, isa_int_str, isa_int_tup, isa_int_lst, isa_int_wls, isa_int_dic, isa_bool_non, isa_bool_bl, isa_bool_int, isa_bool_str, isa_bool_tup, isa_bool_lst, isa_bool_wls, isa_bool_dic, isa_str_non, isa_str_bl, isa_str_int, isa_str_str, isa_str_tup, isa_str_lst, isa_str_wls, isa_str_dic, isa_list_non, isa_list_bl, isa_list_int, isa_list_str, isa_list_tup, isa_list_lst, isa_list_wls, isa_list_dic, isa_tuple_non, isa_tuple_bl, isa_tuple_int, isa_tuple_str, isa_tuple_tup, isa_tuple_lst, isa_tuple_wls, isa_tuple_dic, isa_list_tuple_non, isa_list_tuple_bl, isa_list_tuple_int, isa_list_tuple_str, isa_list_tuple_tup, isa_list_tuple_lst, isa_list_tuple_wls, isa_list_tuple_dic, isa_int_str_non, isa_int_str_bl, isa_int_str_int, isa_int_str_str, isa_int_str_tup, isa_int_str_lst, isa_int_str_wls, isa_int_str_dic, isa_str_int_non, isa_str_int_bl, isa_str_int_int, isa_str_int_str, isa_str_int_tup, isa_str_int_lst, isa_str_int_wls, isa_str_int_dic, isa_tuple_list_non, isa_tuple_list_bl, isa_tuple_list_int, isa_tuple_list_str, isa_tuple_list_tup, isa_tuple_list_lst, isa_tuple_list_wls, isa_tuple_list_dic, dIsN_bl, dNotN_bl, dIsN_int, dNotN_int, dIsN_str, dNotN_str, dIsN_tup, dNotN_tup, dIsN_lst, dNotN_lst, dIsN_wls, dNotN_wls, dIsN_dic, dNotN_dic, dIsN_non, dNotN_non, tru_bl, tru_non, tru_int, tru_lst, tru_wls, tru_tup, int_int, back_val', back_own', back_non]
        refine ⟨.inr ⟨by decide, by decide⟩, .inr ⟨by decide, by decide⟩, by decide, hK5 _ ?_⟩
        refine ws_for ?_
        simp only [Wp_ret, Wp_no, Wp_bnd, Wp_ite, Raw.stay_val, Raw.stay_bor, Wp_m2, Wp_var, Wp_peek, Wp_move, Wp_frz, Raw.frz_own, Raw.frz_val, Raw.frz_lst, Wp_gI, Wp_gD, Wp_g1, Wp_g2I, Raw.dt_val, Raw.dt_own, Raw.dt_bor, Wp_isa, Wp_bool, Wp_tru, Wp_not, Wp_and, Wp_or, Wp_ofB, Wp_if, Wp_andV, Wp_orV, Wp_un, Wp_nil, Wp_cons, Raw.datas_nil, Raw.datas_cons, Raw.vals_nil, Raw.vals_cons, Wp_tup, Wp_lst, Wp_call, Wp_callO, Wp_set, Wp_app, Wp_pop, Wp_rev, Wp_range1, Wp_range2, Wp_err, Wp_erris, Ws_nx, Ws_bk, Ws_ct, Ws_retN, Ws_expr, Ws_ret, Ws_if, Ws_set, Ws_par, Ws_unp, Ws_raise, Ws_raise0, dEq_ii, dNe_ii, dLen_lst, dLen_wls, dLen_tup, ix_lst, ix_wls, ix_tup', enF, gSet, gTupD, gsCons, gsNil, ↓reduceIte, List.getElem?_cons_zero, List.getElem?_cons_succ, List.getElem?_nil, List.set_cons_zero, List.set_cons_succ, List.set_nil, List.length_cons, List.length_nil, List.replicate, List.cons_append, List.nil_append, List.append_nil, List.take, Option.map_some, decide_eq_true_eq, decide_eq_false_iff_not, Bool.not_eq_true', Bool.not_eq_false', Bool.not_not, Bool.not_true, Bool.not_false, true_and, and_true, false_and, and_false, imp_self, implies_true, not_false_eq_true, not_true_eq_false, true_implies, false_implies, Bool.true_eq_false, Bool.false_eq_true, forall_const, Nat.reduceAdd, Nat.reduceSub, Nat.reduceEqDiff, Nat.reduceLeDiff, mulOk_iff, divOk_iff, modOk_iff, powOk_iff, small_iff, isa_int_non, isa_int_bl, isa_int_int, isa_int_str, isa_int_tup, isa_int_lst, isa_int_wls, isa_int_dic, isa_bool_non, isa_bool_bl, isa_bool_int, isa_bool_str, isa_bool_tup, isa_bool_lst, isa_bool_wls, isa_bool_dic, isa_str_non, isa_str_bl, isa_str_int, isa_str_str, isa_str_tup, isa_str_lst, isa_str_wls, isa_str_dic, isa_list_non, isa_list_bl, isa_list_int, isa_list_str, isa_list_tup, isa_list_lst, isa_list_wls, isa_list_dic, isa_tuple_non, isa_tuple_bl, isa_tuple_int, isa_tuple_str, isa_tuple_tup, isa_tuple_lst, isa_tuple_wls, isa_tuple_dic, isa_list_tuple_non, isa_list_tuple_bl, isa_list_tuple_int, isa_list_tuple_str, isa_list_tuple_tup, isa_list_tuple_lst, isa_list_tuple_wls, isa_list_tuple_dic, isa_int_str_non, isa_int_str_bl, isa_int_str_int, isa_int_str_str, isa_int_str_tup, isa_int_str_lst, isa_int_str_wls, isa_int_str_dic, isa_str_int_non, isa_str_int_bl, isa_str_int_int, isa_str_int_str, isa_str_int_tup, isa_str_int_lst, isa_str_int_wls, isa_str_int_dic, isa_tuple_list_non, isa_tuple_list_bl, isa_tuple_list_int, isa_tuple_list_str, isa_tuple_list_tup, isa_tuple_list_lst, isa_tuple_list_wls, isa_tuple_list_dic, dIsN_bl, dNotN_bl, dIsN_int, dNotN_int, dIsN_str, dNotN_str, dIsN_tup, dNotN_tup, dIsN_lst, dNotN_lst, dIsN_wls, dNotN_wls, dIsN_dic, dNotN_dic, dIsN_non, dNotN_non, tru_bl, tru_non, tru_int, tru_lst, tru_wls, tru_tup, int_int, back_val', back_own', back_non]
        refine ⟨by decide, ?_⟩
        refine ws_forR (fun k ρ => ∃ (ys : List Int) (n : Int) (x : L), ys.length ≤ 48 * i.toNat + k.toNat ∧ ρ = [.val (.wls (ns.map .int)), .own (.lst (ys.map .int)), .val (.int i), .val (.int cell), x, .val (.int n)]) ⟨xs, _, _, by simpa using hx, rfl⟩ (by decide) ?_ ?_
        · rintro k ρ g0 g1 ⟨ys, n, x, hy, rfl⟩
          simp only [Wp_ret, Wp_no, Wp_bnd, Wp_ite, Raw.stay_val, Raw.stay_bor, Wp_m2, Wp_var, Wp_peek, Wp_move, Wp_frz, Raw.frz_own, Raw.frz_val, Raw.frz_lst, Wp_gI, Wp_gD, Wp_g1, Wp_g2I, Raw.dt_val, Raw.dt_own, Raw.dt_bor, Wp_isa, Wp_bool, Wp_tru, Wp_not, Wp_and, Wp_or, Wp_ofB, Wp_if, Wp_andV, Wp_orV, Wp_un, Wp_nil, Wp_cons, Raw.datas_nil, Raw.datas_cons, Raw.vals_nil, Raw.vals_cons, Wp_tup, Wp_lst, Wp_call, Wp_callO, Wp_set, Wp_app, Wp_pop, Wp_rev, Wp_range1, Wp_range2, Wp_err, Wp_erris, Ws_nx, Ws_bk, Ws_ct, Ws_retN, Ws_expr, Ws_ret, Ws_if, Ws_set, Ws_par, Ws_unp, Ws_raise, Ws_raise0, dEq_ii, dNe_ii, dLen_lst, dLen_wls, dLen_tup, ix_lst, ix_wls, ix_tup', enF, gSet, gTupD, gsCons, gsNil, ↓reduceIte, List.getElem?_cons_zero, List.getElem?_cons_succ, List.getElem?_nil, List.set_cons_zero, List.set_cons_succ, List.set_nil, List.length_cons, List.length_nil, List.replicate, List.cons_append, List.nil_append, List.append_nil, List.take, Option.map_some, decide_eq_true_eq, decide_eq_false_iff_not, Bool.not_eq_true', Bool.not_eq_false', Bool.not_not, Bool.not_true, Bool.not_false, true_and, and_true, false_and, and_false, imp_self, implies_true, not_false_eq_true, not_true_eq_false, true_implies, false_implies, Bool.true_eq_false, Bool.false_eq_true, forall_const, Nat.reduceAdd, Nat.reduceSub, Nat.reduceEqDiff, Nat.reduceLeDiff, mulOk_iff, divOk_iff, modOk_iff, powOk_iff, small_iff, isa_int_non, isa_int_bl, isa_int_int, isa_int_str, isa_int_tup, isa_int_lst, isa_int_wls, isa_int_dic, isa_bool_non, isa_bool_bl, isa_bool_int, isa_bool_str, isa_bool_tup, isa_bool_lst, isa_bool_wls, isa_bool_dic, isa_str_non, isa_str_bl, isa_str_int, isa_str_str, isa_str_tup, isa_str_lst, isa_str_wls, isa_str_dic, isa_list_non, isa_list_bl, isa_list_int, isa_list_str, isa_list_tup, isa_list_lst, isa_list_wls, isa_list_dic, isa_tuple_non, isa_tuple_bl, isa_tuple_int, isa_tuple_str, isa_tuple_tup, isa_tuple_lst, isa_tuple_wls, isa_tuple_dic, isa_list_tuple_non, isa_list_tuple_bl, isa_list_tuple_int, isa_list_tuple_str, isa_list_tuple_tup, isa_list_tuple_lst, isa_list_tuple_wls, isa_list_tuple_dic, isa_int_str_non, isa_int_str_bl, isa_int_str_int, isa_int_str_str, isa_int_str_tup, isa_int_str_lst, isa_int_str_wls, isa_int_str_dic, isa_str_int_non, isa_str_int_bl, isa_str_int_int, isa_str_int_str, isa_str_int_tup, isa_str_int_lst, isa_str_int_wls, isa_str_int_dic, isa_tuple_list_non, isa_tuple_list_bl, isa_tuple_list_int, isa_tuple_list_str, isa_tuple_list_tup, isa_tuple_list_lst, isa_tuple_list_wls, isa_tuple_list_dic, dIsN_bl, dNotN_bl, dIsN_int, dNotN_int, dIsN_str, dNotN_str, dIsN_tup, dNotN_tup, dIsN_lst, dNotN_lst, dIsN_wls, dNotN_wls, dIsN_dic, dNotN_dic, dIsN_non, dNotN_non, tru_bl, tru_non, tru_int, tru_lst, tru_wls, tru_tup, int_int, back_val', back_own', back_non]
          refine ws_seq fun K5 hK5 => ?_
          simp only [Wp_ret, Wp_no, Wp_bnd, Wp_ite, Raw.stay_val, Raw.stay_bor, Wp_m2, Wp_var, Wp_peek, Wp_move, Wp_frz, Raw.frz_own, Raw.frz_val, Raw.frz_lst, Wp_gI, Wp_gD, Wp_g1, Wp_g2I, Raw.dt_val, Raw.dt_own, Raw.dt_bor, Wp_isa, Wp_bool, Wp_tru, Wp_not, Wp_and, Wp_or, Wp_ofB, Wp_if, Wp_andV, Wp_orV, Wp_un, Wp_nil, Wp_cons, Raw.datas_nil, Raw.datas_cons, Raw.vals_nil, Raw.vals_cons, Wp_tup, Wp_lst, Wp_call, Wp_callO, Wp_set, Wp_app, Wp_pop, Wp_rev, Wp_range1, Wp_range2, Wp_err, Wp_erris, Ws_nx, Ws_bk, Ws_ct, Ws_retN, Ws_expr, Ws_ret, Ws_if, Ws_set, Ws_par, Ws_unp, Ws_raise, Ws_raise0, dEq_ii, dNe_ii, dLen_lst, dLen_wls, dLen_tup, ix_lst, ix_wls, ix_tup', enF, gSet, gTupD, gsCons, gsNil, ↓reduceIte, List.getElem?_cons_zero, List.getElem?_cons_succ, List.getElem?_nil, List.set_cons_zero, List.set_cons_succ, List.set_nil, List.length_cons, List.length_nil, List.replicate, List.cons_append, List.nil_append, List.append_nil, List.take, Option.map_some, decide_eq_true_eq, decide_eq_false_iff_not, Bool.not_eq_true', Bool.not_eq_false', Bool.not_not, Bool.not_true, Bool.not_false, true_and, and_true, false_and, and_false, imp_self, implies_true, not_false_eq_true, not_true_eq_false, true_implies, false_implies, Bool.true_eq_false, Bool.false_eq_true, forall_const, Nat.reduceAdd, Nat.reduceSub, Nat.reduceEqDiff, Nat.reduceLeDiff, mulOk_iff, divOk_iff, modOk_iff, powOk_iff, small_iff, isa_int_non, isa_int_bl, isa_int_int, isa_int_str, isa_int_tup, isa_int_lst, isa_int_wls, isa_int_dic, isa_bool_non, isa_bool_bl, isa_bool_int, isa_bool_str, isa_bool_tup, isa_bool_lst, isa_bool_wls, isa_bool_dic, isa_str_non, isa_str_bl, isa_str_int, isa_str_str, isa_str_tup, isa_str_lst, isa_str_wls, isa_str_dic, isa_list_non, isa_list_bl, isa_list_int, isa_list_str, isa_list_tup, isa_list_lst, isa_list_wls, isa_list_dic, isa_tuple_non, isa_tuple_bl, isa_tuple_int, isa_tuple_str, isa_tuple_tup, isa_tuple_lst, isa_tuple_wls, isa_tuple_dic, isa_list_tuple_non, isa_list_tuple_bl, isa_list_tuple_int, isa_list_tuple_str, isa_list_tuple_tup, isa_list_tuple_lst, isa_list_tuple_wls, isa_list_tuple_dic, isa_int_str_non, isa_int_str_bl, isa_int_str_int, isa_int_str_str, isa_int_str_tup, isa_int_str_lst, isa_int_str_wls, isa_int_str_dic, isa_str_int_non, isa_str_int_bl, isa_str_int_int, isa_str_int_str, isa_str_int_tup, isa_str_int_lst, isa_str_int_wls, isa_str_int_dic, isa_tuple_list_non, isa_tuple_list_bl, isa_tuple_list_int, isa_tuple_list_str, isa_tuple_list_tup, isa_tuple_list_lst, isa_tuple_list_wls, isa_tuple_list_dic, dIsN_bl, dNotN_bl, dIsN_int, dNotN_int, dIsN_str, dNotN_str, dIsN_tup, dNotN_tup, dIsN_lst, dNotN_lst, dIsN_wls, dNotN_wls, dIsN_dic, dNotN_dic, dIsN_non, dNotN_non, tru_bl, tru_non, tru_int, tru_lst, tru_wls, tru_tup, int_int, back_val', back_own', back_non]
          refine ⟨.inr ⟨by decide, by decide⟩, .inr ⟨by decide, by decide⟩, by decide, hK5 _ ?_⟩
          simp only [Wp_ret, Wp_no, Wp_bnd, Wp_ite, Raw.stay_val, Raw.stay_bor, Wp_m2, Wp_var, Wp_peek, Wp_move, Wp_frz, Raw.frz_own, Raw.frz_val, Raw.frz_lst, Wp_gI, Wp_gD, Wp_g1, Wp_g2I, Raw.dt_val, Raw.dt_own, Raw.dt_bor, Wp_isa, Wp_bool, Wp_tru, Wp_not, Wp_and, Wp_or, Wp_ofB, Wp_if, Wp_andV, Wp_orV, Wp_un, Wp_nil, Wp_cons, Raw.datas_nil, Raw.datas_cons, Raw.vals_nil, Raw.vals_cons, Wp_tup, Wp_lst, Wp_call, Wp_callO, Wp_set, Wp_app, Wp_pop, Wp_rev, Wp_range1, Wp_range2, Wp_err, Wp_erris, Ws_nx, Ws_bk, Ws_ct, Ws_retN, Ws_expr, Ws_ret, Ws_if, Ws_set, Ws_par, Ws_unp, Ws_raise, Ws_raise0, dEq_ii, dNe_ii, dLen_lst, dLen_wls, dLen_tup, ix_lst, ix_wls, ix_tup', enF, gSet, gTupD, gsCons, gsNil, ↓reduceIte, List.getElem?_cons_zero, List.getElem?_cons_succ, List.getElem?_nil, List.set_cons_zero, List.set_cons_succ, List.set_nil, List.length_cons, List.length_nil, List.replicate, List.cons_append, List.nil_append, List.append_nil, List.take, Option.map_some, decide_eq_true_eq, decide_eq_false_iff_not, Bool.not_eq_true', Bool.not_eq_false', Bool.not_not, Bool.not_true, Bool.not_false, true_and, and_true, false_and, and_false, imp_self, implies_true, not_false_eq_true, not_true_eq_false, true_implies, false_implies, Bool.true_eq_false, Bool.false_eq_true, forall_const, Nat.reduceAdd, Nat.reduceSub, Nat.reduceEqDiff, Nat.reduceLeDiff, mulOk_iff, divOk_iff, modOk_iff, powOk_iff, small_iff, isa_int_non, isa_int_bl, isa_int_int, isa_int_str, isa_int_tup, isa_int_lst, isa_int_wls, isa_int_dic, isa_bool_non, isa_bool_bl, isa_bool_int, isa_bool_str, isa_bool_tup, isa_bool_lst, isa_bool_wls, isa_bool_dic, isa_str_non, isa_str_bl, isa_str_int, isa_str_str, isa_str_tup, isa_str_lst, isa_str_wls, isa_str_dic, isa_list_non, isa_list_bl, isa_list_int, isa_list_str, isa_list_tup, isa_list_lst, isa_list_wls, isa_list_dic, isa_tuple_non, isa_tuple_bl, isa_tuple_int, isa_tuple_str, isa_tuple_tup, isa_tuple_lst, isa_tuple_wls, isa_tuple_dic, isa_list_tuple_non, isa_list_tuple_bl, isa_list_tuple_int, isa_list_tuple_str, isa_list_tuple_tup, isa_list_tuple_lst, isa_list_tuple_wls, isa_list_tuple_dic, isa_int_str_non, isa_int_str_bl, isa_int_str_int, isa_int_str_str, isa_int_str_tup, isa_int_str_lst, isa_int_str_wls, isa_int_str_dic, isa_str_int_non, isa_str_int_bl, isa_str_int_int, isa_str_int_str, isa_str_int_tup, isa_str_int_lst, isa_str_int_wls, isa_str_int_dic, isa_tuple_list_non, isa_tuple_list_bl, isa_tuple_list_int, isa_tuple_list_str, isa_tuple_list_tup, isa_tuple_list_lst, isa_tuple_list_wls, isa_tuple_list_dic, dIsN_bl, dNotN_bl, dIsN_int, dNotN_int, dIsN_str, dNotN_str, dIsN_tup, dNotN_tup, dIsN_lst, dNotN_lst, dIsN_wls, dNotN_wls, dIsN_dic, dNotN_dic, dIsN_non, dNotN_non, tru_bl, tru_non, tru_int, tru_lst, tru_wls, tru_tup, int_int, back_val', back_own', back_non, List.length_map]
          generalize Int.fdiv _ 7 = u
          exact ⟨by decide, by omega, ys ++ [u], _, _, by rw [List.length_append, List.length_singleton]; omega, by rw [List.map_append]; rfl⟩
        · rintro ρ ⟨ys, n, x, hy, rfl⟩
          exact ⟨ys, _, _, _, _, by omega, rfl⟩
    simp only [Wp_ret, Wp_no, Wp_bnd, Wp_ite, Raw.stay_val, Raw.stay_bor, Wp_m2, Wp_var, Wp_peek, Wp_move, Wp_frz, Raw.frz_own, Raw.frz_val, Raw.frz_lst, Wp_gI, Wp_gD, Wp_g1, Wp_g2I, Raw.dt_val, Raw.dt_own, Raw.dt_bor, Wp_isa, Wp_bool, Wp_tru, Wp_not, Wp_and, Wp_or, Wp_ofB, Wp_if, Wp_andV, Wp_orV, Wp_un, Wp_nil, Wp_cons, Raw.datas_nil, Raw.datas_cons, Raw.vals_nil, Raw.vals_cons, Wp_tup, Wp_lst, Wp_call, Wp_callO, Wp_set, Wp_app, Wp_pop, Wp_rev, Wp_range1, Wp_range2, Wp_err, Wp_erris, Ws_nx, Ws_bk, Ws_ct, Ws_retN, Ws_expr, Ws_ret, Ws_if, Ws_set, Ws_par, Ws_unp, Ws_raise, Ws_raise0, dEq_ii, dNe_ii, dLen_lst, dLen_wls, dLen_tup, ix_lst, ix_wls, ix_tup', enF, gSet, gTupD, gsCons, gsNil, ↓reduceIte, List.getElem?_cons_zero, List.getElem?_cons_succ, List.getElem?_nil, List.set_cons_zero, List.set_cons_succ, List.set_nil, List.length_cons, List.length_nil, List.replicate, List.cons_append, List.nil_append, List.append_nil, List.take, Option.map_some, decide_eq_true_eq, decide_eq_false_iff_not, Bool.not_eq_true', Bool.not_eq_false', Bool.not_not, Bool.not_true, Bool.not_false, true_and, and_true, false_and, and_false, imp_self, implies_true, not_false_eq_true, not_true_eq_false, true_implies, false_implies, Bool.true_eq_false, Bool.false_eq_true, forall_const, Nat.reduceAdd, Nat.reduceSub, Nat.reduceEqDiff, Nat.reduceLeDiff, mulOk_iff, divOk_iff, modOk_iff, powOk_iff, small_iff, isa_int_non, isa_int_bl, isa_int_int, isa_int_str, isa_int_tup, isa_int_lst, isa_int_wls, isa_int_dic, isa_bool_non, isa_bool_bl, isa_bool_int, isa_bool_str, isa_bool_tup, isa_bool_lst, isa_bool_wls, isa_bool_dic, isa_str_non, isa_str_bl, isa_str_int, isa_str_str, isa_str_tup, isa_str_lst, isa_str_wls, isa_str_dic, isa_list_non, isa_list_bl, isa_list_int, isa_list_str, isa_list_tup, isa_list_lst, isa_list_wls, isa_list_dic, isa_tuple_non, isa_tuple_bl, isa_tuple_int, isa_tuple_str, isa_tuple_tup, isa_tuple_lst, isa_tuple_wls, isa_tuple_dic, isa_list_tuple_non, isa_list_tuple_bl, isa_list_tuple_int, isa_list_tuple_str, isa_list_tuple_tup, isa_list_tuple_lst, isa_list_tuple_wls, isa_list_tuple_dic, isa_int_str_non, isa_int_str_bl, isa_int_str_int, isa_int_str_str, isa_int_str_tup, isa_int_str_lst, isa_int_str_wls, isa_int_str_dic, isa_str_int_non, isa_str_int_bl, isa_str_int_int, isa_str_int_str, isa_str_int_tup, isa_str_int_lst, isa_str_int_wls, isa_str_int_dic, isa_tuple_list_non, isa_tuple_list_bl, isa_tuple_list_int, isa_tuple_list_str, isa_tuple_list_tup, isa_tuple_list_lst, isa_tuple_list_wls, isa_tuple_list_dic, dIsN_bl, dNotN_bl, dIsN_int, dNotN_int, dIsN_str, dNotN_str, dIsN_tup, dNotN_tup, dIsN_lst, dNotN_lst, dIsN_wls, dNotN_wls, dIsN_dic, dNotN_dic, dIsN_non, dNotN_non, tru_bl, tru_non, tru_int, tru_lst, tru_wls, tru_tup, int_int, back_val', back_own', back_non]
    exact ⟨fun _ => key _, fun _ => key _⟩
  · rintro ρ ⟨xs, a, b, c, d, hx, rfl⟩
    refine hK2 _ ?_
    refine ws_seq fun K3 hK3 => ?_
    simp only [Wp_ret, Wp_no, Wp_bnd, Wp_ite, Raw.stay_val, Raw.stay_bor, Wp_m2, Wp_var, Wp_peek, Wp_move, Wp_frz, Raw.frz_own, Raw.frz_val, Raw.frz_lst, Wp_gI, Wp_gD, Wp_g1, Wp_g2I, Raw.dt_val, Raw.dt_own, Raw.dt_bor, Wp_isa, Wp_bool, Wp_tru, Wp_not, Wp_and, Wp_or, Wp_ofB, Wp_if, Wp_andV, Wp_orV, Wp_un, Wp_nil, Wp_cons, Raw.datas_nil, Raw.datas_cons, Raw.vals_nil, Raw.vals_cons, Wp_tup, Wp_lst, Wp_call, Wp_callO, Wp_set, Wp_app, Wp_pop, Wp_rev, Wp_range1, Wp_range2, Wp_err, Wp_erris, Ws_nx, Ws_bk, Ws_ct, Ws_retN, Ws_expr, Ws_ret, Ws_if, Ws_set, Ws_par, Ws_unp, Ws_raise, Ws_raise0, dEq_ii, dNe_ii, dLen_lst, dLen_wls, dLen_tup, ix_lst, ix_wls, ix_tup', enF, gSet, gTupD, gsCons, gsNil, ↓reduceIte, List.getElem?_cons_zero, List.getElem?_cons_succ, List.getElem?_nil, List.set_cons_zero, List.set_cons_succ, List.set_nil, List.length_cons, List.length_nil, List.replicate, List.cons_append, List.nil_append, List.append_nil, List.take, Option.map_some, decide_eq_true_eq, decide_eq_false_iff_not, Bool.not_eq_true', Bool.not_eq_false', Bool.not_not, Bool.not_true, Bool.not_false, true_and, and_true, false_and, and_false, imp_self, implies_true, not_false_eq_true, not_true_eq_false, true_implies, false_implies, Bool.true_eq_false, Bool.false_eq_true, forall_const, Nat.reduceAdd, Nat.reduceSub, Nat.reduceEqDiff, Nat.reduceLeDiff, mulOk_iff, divOk_iff, modOk_iff, powOk_iff, small_iff, isa_int_non, isa_int_bl, isa_int_int, isa_int_str, isa_int_tup, isa_int_lst, isa_int_wls, isa_int_dic, isa_bool_non, isa_bool_bl, isa_bool_int, isa_bool_str, isa_bool_tup, isa_bool_lst, isa_bool_wls, isa_bool_dic, isa_str_non, isa_str_bl, isa_str_int, isa_str_str, isa_str_tup, isa_str_lst, isa_str_wls, isa_str_dic, isa_list_non, isa_list_bl, isa_list_int, isa_list_str, isa_list_tup, isa_list_lst, isa_list_wls, isa_list_dic, isa_tuple_non, isa_tuple_bl, isa_tuple_int, isa_tuple_str, isa_tuple_tup, isa_tuple_lst, isa_tuple_wls, isa_tuple_dic, isa_list_tuple_non, isa_list_tuple_bl, isa_list_tuple_int, isa_list_tuple_str, isa_list_tuple_tup, isa_list_tuple_lst, isa_list_tuple_wls, isa_list_tuple_dic, isa_int_str_non, isa_int_str_bl, isa_int_str_int, isa_int_str_str, isa_int_str_tup, isa_int_str_lst, isa_int_str_wls, isa_int_str_dic, isa_str_int_non, isa_str_int_bl, isa_str_int_int, isa_str_int_str, isa_str_int_tup, isa_str_int_lst, isa_str_int_wls, isa_str_int_dic, isa_tuple_list_non, isa_tuple_list_bl, isa_tuple_list_int, isa_tuple_list_str, isa_tuple_list_tup, isa_tuple_list_lst, isa_tuple_list_wls, isa_tuple_list_dic, dIsN_bl, dNotN_bl, dIsN_int, dNotN_int, dIsN_str, dNotN_str, dIsN_tup, dNotN_tup, dIsN_lst, dNotN_lst, dIsN_wls, dNotN_wls, dIsN_dic, dNotN_dic, dIsN_non, dNotN_non, tru_bl, tru_non, tru_int, tru_lst, tru_wls, tru_tup, int_int, back_val', back_own', back_non]
    refine hK3 _ ?_
    simp only [Wp_ret, Wp_no, Wp_bnd, Wp_ite, Raw.stay_val, Raw.stay_bor, Wp_m2, Wp_var, Wp_peek, Wp_move, Wp_frz, Raw.frz_own, Raw.frz_val, Raw.frz_lst, Wp_gI, Wp_gD, Wp_g1, Wp_g2I, Raw.dt_val, Raw.dt_own, Raw.dt_bor, Wp_isa, Wp_bool, Wp_tru, Wp_not, Wp_and, Wp_or, Wp_ofB, Wp_if, Wp_andV, Wp_orV, Wp_un, Wp_nil, Wp_cons, Raw.datas_nil, Raw.datas_cons, Raw.vals_nil, Raw.vals_cons, Wp_tup, Wp_lst, Wp_call, Wp_callO, Wp_set, Wp_app, Wp_pop, Wp_rev, Wp_range1, Wp_range2, Wp_err, Wp_erris, Ws_nx, Ws_bk, Ws_ct, Ws_retN, Ws_expr, Ws_ret, Ws_if, Ws_set, Ws_par, Ws_unp, Ws_raise, Ws_raise0, dEq_ii, dNe_ii, dLen_lst, dLen_wls, dLen_tup, ix_lst, ix_wls, ix_tup', enF, gSet, gTupD, gsCons, gsNil, ↓reduceIte, List.getElem?_cons_zero, List.getElem?_cons_succ, List.getElem?_nil, List.set_cons_zero, List.set_cons_succ, List.set_nil, List.length_cons, List.length_nil, List.replicate, List.cons_append, List.nil_append, List.append_nil, List.take, Option.map_some, decide_eq_true_eq, decide_eq_false_iff_not, Bool.not_eq_true', Bool.not_eq_false', Bool.not_not, Bool.not_true, Bool.not_false, true_and, and_true, false_and, and_false, imp_self, implies_true, not_false_eq_true, not_true_eq_false, true_implies, false_implies, Bool.true_eq_false, Bool.false_eq_true, forall_const, Nat.reduceAdd, Nat.reduceSub, Nat.reduceEqDiff, Nat.reduceLeDiff, mulOk_iff, divOk_iff, modOk_iff, powOk_iff, small_iff, isa_int_non, isa_int_bl, isa_int_int, isa_int_str, isa_int_tup, isa_int_lst, isa_int_wls, isa_int_dic, isa_bool_non, isa_bool_bl, isa_bool_int, isa_bool_str, isa_bool_tup, isa_bool_lst, isa_bool_wls, isa_bool_dic, isa_str_non, isa_str_bl, isa_str_int, isa_str_str, isa_str_tup, isa_str_lst, isa_str_wls, isa_str_dic, isa_list_non, isa_list_bl, isa_list_int, isa_list_str, isa_list_tup, isa_list_lst, isa_list_wls, isa_list_dic, isa_tuple_non, isa_tuple_bl, isa_tuple_int, isa_tuple_str, isa_tuple_tup, isa_tuple_lst, isa_tuple_wls, isa_tuple_dic, isa_list_tuple_non, isa_list_tuple_bl, isa_list_tuple_int, isa_list_tuple_str, isa_list_tuple_tup, isa_list_tuple_lst, isa_list_tuple_wls, isa_list_tuple_dic, isa_int_str_non, isa_int_str_bl, isa_int_str_int, isa_int_str_str, isa_int_str_tup, isa_int_str_lst, isa_int_str_wls, isa_int_str_dic, isa_str_int_non, isa_str_int_bl, isa_str_int_int, isa_str_int_str, isa_str_int_tup, isa_str_int_lst, isa_str_int_wls, isa_str_int_dic, isa_tuple_list_non, isa_tuple_list_bl, isa_tuple_list_int, isa_tuple_list_str, isa_tuple_list_tup, isa_tuple_list_lst, isa_tuple_list_wls, isa_tuple_list_dic, dIsN_bl, dNotN_bl, dIsN_int, dNotN_int, dIsN_str, dNotN_str, dIsN_tup, dNotN_tup, dIsN_lst, dNotN_lst, dIsN_wls, dNotN_wls, dIsN_dic, dNotN_dic, dIsN_non, dNotN_non, tru_bl, tru_non, tru_int, tru_lst, tru_wls, tru_tup, int_int, back_val', back_own', back_non]
    rw [← List.map_reverse]
    exact q _ _
/-- the written starts: n of them -/
def sts (b : Int) (n : Nat) : List Dt := (List.range n).map fun k : Nat => Dt.int (vs b k)
theorem sts_len (b : Int) (n : Nat) : (sts b n).length = n := by unfold sts; rw [List.length_map, List.length_range]
theorem sts_get {b : Int} {n k : Nat} (h : k < n) : (sts b n)[k]? = some (.int (vs b k)) := by
  unfold sts; rw [List.getElem?_map, List.getElem?_range h]; rfl
theorem sts_at {b i : Int} {n : Nat} (h0 : 0 ≤ i) (h : i < n) : L2.atI (sts b n) i = some (.int (vs b i)) := by
  rw [atI_nat h0, sts_get (by omega), Int.toNat_of_nonneg h0]
theorem sts_succ (b : Int) (n : Nat) : sts b (n + 1) = sts b n ++ [.int (vs b n)] := by
  unfold sts; rw [List.range_succ, List.map_append]; rfl
theorem w_starts {b : Int} {n : Nat} (hn : n < 1000000) (q : ∀ ls, Q (.own (.lst (sts b (n + 1)))) ls) : Wo (m_law_starts [.val (.int b), .val (.int n)]) Q E := by
  unfold m_law_starts
  refine wo_fn ?_
  unfold b_law_starts
  refine ws_seq fun K hK => ?_
  simp only [Wp_ret, Wp_no, Wp_bnd, Wp_ite, Raw.stay_val, Raw.stay_bor, Wp_m2, Wp_var, Wp_peek, Wp_move, Wp_frz, Raw.frz_own, Raw.frz_val, Raw.frz_lst, Wp_gI, Wp_gD, Wp_g1, Wp_g2I, Raw.dt_val, Raw.dt_own, Raw.dt_bor, Wp_isa, Wp_bool, Wp_tru, Wp_not, Wp_and, Wp_or, Wp_ofB, Wp_if, Wp_andV, Wp_orV, Wp_un, Wp_nil, Wp_cons, Raw.datas_nil, Raw.datas_cons, Raw.vals_nil, Raw.vals_cons, Wp_tup, Wp_lst, Wp_call, Wp_callO, Wp_set, Wp_app, Wp_pop, Wp_rev, Wp_range1, Wp_range2, Wp_err, Wp_erris, Ws_nx, Ws_bk, Ws_ct, Ws_retN, Ws_expr, Ws_ret, Ws_if, Ws_set, Ws_par, Ws_unp, Ws_raise, Ws_raise0, dEq_ii, dNe_ii, dLen_lst, dLen_wls, dLen_tup, ix_lst, ix_wls, ix_tup', enF, gSet, gTupD, gsCons, gsNil, ↓reduceIte, List.getElem?_cons_zero, List.getElem?_cons_succ, List.getElem?_nil, List.set_cons_zero, List.set_cons_succ, List.set_nil, List.length_cons, List.length_nil, List.replicate, List.cons_append, List.nil_append, List.append_nil, List.take, Option.map_some, decide_eq_true_eq, decide_eq_false_iff_not, Bool.not_eq_true', Bool.not_eq_false', Bool.not_not, Bool.not_true, Bool.not_false, true_and, and_true, false_and, and_false, imp_self, implies_true, not_false_eq_true, not_true_eq_false, true_implies, false_implies, Bool.true_eq_false, Bool.false_eq_true, forall_const, Nat.reduceAdd, Nat.reduceSub, Nat.reduceEqDiff, Nat.reduceLeDiff, mulOk_iff, divOk_iff, modOk_iff, powOk_iff, small_iff, isa_int_non, isa_int_bl, isa_int_int, isa_int_str, isa_int_tup, isa_int_lst, isa_int_wls, isa_int_dic, isa_bool_non, isa_bool_bl, isa_bool_int, isa_bool_str, isa_bool_tup, isa_bool_lst, isa_bool_wls, isa_bool_dic, isa_str_non, isa_str_bl, isa_str_int, isa_str_str, isa_str_tup, isa_str_lst, isa_str_wls, isa_str_dic, isa_list_non, isa_list_bl, isa_list_int, isa_list_str, isa_list_tup, isa_list_lst, isa_list_wls, isa_list_dic, isa_tuple_non, isa_tuple_bl, isa_tuple_int, isa_tuple_str, isa_tuple_tup, isa_tuple_lst, isa_tuple_wls, isa_tuple_dic, isa_list_tuple_non, isa_list_tuple_bl, isa_list_tuple_int, isa_list_tuple_str, isa_list_tuple_tup, isa_list_tuple_lst, isa_list_tuple_wls, isa_list_tuple_dic, isa_int_str_non, isa_int_str_bl, isa_int_str_int, isa_int_str_str, isa_int_str_tup, isa_int_str_lst, isa_int_str_wls, isa_int_str_dic, isa_str_int_non, isa_str_int_bl, isa_str_int_int, isa_str_int_str, isa_str_int_tup, isa_str_int_lst, isa_str_int_wls, isa_str_int_dic, isa_tuple_list_non, isa_tuple_list_bl, isa_tuple_list_int, isa_tuple_list_str, isa_tuple_list_tup, isa_tuple_list_lst, isa_tuple_list_wls, isa_tuple_list_dic, dIsN_bl, dNotN_bl, dIsN_int, dNotN_int, dIsN_str, dNotN_str, dIsN_tup, dNotN_tup, dIsN_lst, dNotN_lst, dIsN_wls, dNotN_wls, dIsN_dic, dNotN_dic, dIsN_non, dNotN_non, tru_bl, tru_non, tru_int, tru_lst, tru_wls, tru_tup, int_int, back_val', back_own', back_non]
  refine hK _ ?_
  refine ws_seq fun K2 hK2 => ?_
  refine ws_for ?_
  simp only [Wp_ret, Wp_no, Wp_bnd, Wp_ite, Raw.stay_val, Raw.stay_bor, Wp_m2, Wp_var, Wp_peek, Wp_move, Wp_frz, Raw.frz_own, Raw.frz_val, Raw.frz_lst, Wp_gI, Wp_gD, Wp_g1, Wp_g2I, Raw.dt_val, Raw.dt_own, Raw.dt_bor, Wp_isa, Wp_bool, Wp_tru, Wp_not, Wp_and, Wp_or, Wp_ofB, Wp_if, Wp_andV, Wp_orV, Wp_un, Wp_nil, Wp_cons, Raw.datas_nil, Raw.datas_cons, Raw.vals_nil, Raw.vals_cons, Wp_tup, Wp_lst, Wp_call, Wp_callO, Wp_set, Wp_app, Wp_pop, Wp_rev, Wp_range1, Wp_range2, Wp_err, Wp_erris, Ws_nx, Ws_bk, Ws_ct, Ws_retN, Ws_expr, Ws_ret, Ws_if, Ws_set, Ws_par, Ws_unp, Ws_raise, Ws_raise0, dEq_ii, dNe_ii, dLen_lst, dLen_wls, dLen_tup, ix_lst, ix_wls, ix_tup', enF, gSet, gTupD, gsCons, gsNil, ↓reduceIte, List.getElem?_cons_zero, List.getElem?_cons_succ, List.getElem?_nil, List.set_cons_zero, List.set_cons_succ, List.set_nil, List.length_cons, List.length_nil, List.replicate, List.cons_append, List.nil_append, List.append_nil, List.take, Option.map_some, decide_eq_true_eq, decide_eq_false_iff_not, Bool.not_eq_true', Bool.not_eq_false', Bool.not_not, Bool.not_true, Bool.not_false, true_and, and_true, false_and, and_false, imp_self, implies_true, not_false_eq_true, not_true_eq_false, true_implies, false_implies, Bool.true_eq_false, Bool.false_eq_true, forall_const, Nat.reduceAdd, Nat.reduceSub, Nat.reduceEqDiff, Nat.reduceLeDiff, mulOk_iff, divOk_iff, modOk_iff, powOk_iff, small_iff, isa_int_non, isa_int_bl, isa_int_int, isa_int_str, isa_int_tup, isa_int_lst, isa_int_wls, isa_int_dic, isa_bool_non, isa_bool_bl, isa_bool_int, isa_bool_str, isa_bool_tup, isa_bool_lst, isa_bool_wls, isa_bool_dic, isa_str_non, isa_str_bl, isa_str_int, isa_str_str, isa_str_tup, isa_str_lst, isa_str_wls, isa_str_dic, isa_list_non, isa_list_bl, isa_list_int, isa_list_str, isa_list_tup, isa_list_lst, isa_list_wls, isa_list_dic, isa_tuple_non, isa_tuple_bl, isa_tuple_int, isa_tuple_str, isa_tuple_tup, isa_tuple_lst, isa_tuple_wls, isa_tuple_dic, isa_list_tuple_non, isa_list_tuple_bl, isa_list_tuple_int, isa_list_tuple_str, isa_list_tuple_tup, isa_list_tuple_lst, isa_list_tuple_wls, isa_list_tuple_dic, isa_int_str_non, isa_int_str_bl, isa_int_str_int, isa_int_str_str, isa_int_str_tup, isa_int_str_lst, isa_int_str_wls, isa_int_str_dic, isa_str_int_non, isa_str_int_bl, isa_str_int_int, isa_str_int_str, isa_str_int_tup, isa_str_int_lst, isa_str_int_wls, isa_str_int_dic, isa_tuple_list_non, isa_tuple_list_bl, isa_tuple_list_int, isa_tuple_list_str, isa_tuple_list_tup, isa_tuple_list_lst, isa_tuple_list_wls, isa_tuple_list_dic, dIsN_bl, dNotN_bl, dIsN_int, dNotN_int, dIsN_str, dNotN_str, dIsN_tup, dNotN_tup, dIsN_lst, dNotN_lst, dIsN_wls, dNotN_wls, dIsN_dic, dNotN_dic, dIsN_non, dNotN_non, tru_bl, tru_non, tru_int, tru_lst, tru_wls, tru_tup, int_int, back_val', back_own', back_non]
  refine ⟨by omega, ?_⟩
  refine ws_forR (fun i ρ => ∃ (k : Nat) (x : L), i = k ∧ ρ = [.val (.int b), .val (.int n), .own (.lst (sts b (k + 1))), x]) ⟨0, _, rfl, by rw [show sts b (0 + 1) = [.int 0] by unfold sts; simp [vs_zero]]⟩ (by omega) ?_ ?_
  · rintro i ρ g0 g1 ⟨k, x, rfl, rfl⟩
    simp only [Wp_ret, Wp_no, Wp_bnd, Wp_ite, Raw.stay_val, Raw.stay_bor, Wp_m2, Wp_var, Wp_peek, Wp_move, Wp_frz, Raw.frz_own, Raw.frz_val, Raw.frz_lst, Wp_gI, Wp_gD, Wp_g1, Wp_g2I, Raw.dt_val, Raw.dt_own, Raw.dt_bor, Wp_isa, Wp_bool, Wp_tru, Wp_not, Wp_and, Wp_or, Wp_ofB, Wp_if, Wp_andV, Wp_orV, Wp_un, Wp_nil, Wp_cons, Raw.datas_nil, Raw.datas_cons, Raw.vals_nil, Raw.vals_cons, Wp_tup, Wp_lst, Wp_call, Wp_callO, Wp_set, Wp_app, Wp_pop, Wp_rev, Wp_range1, Wp_range2, Wp_err, Wp_erris, Ws_nx, Ws_bk, Ws_ct, Ws_retN, Ws_expr, Ws_ret, Ws_if, Ws_set, Ws_par, Ws_unp, Ws_raise, Ws_raise0, dEq_ii, dNe_ii, dLen_lst, dLen_wls, dLen_tup, ix_lst, ix_wls, ix_tup', enF, gSet, gTupD, gsCons, gsNil, ↓reduceIte, List.getElem?_cons_zero, List.getElem?_cons_succ, List.getElem?_nil, List.set_cons_zero, List.set_cons_succ, List.set_nil, List.length_cons, List.length_nil, List.replicate, List.cons_append, List.nil_append, List.append_nil, List.take, Option.map_some, decide_eq_true_eq, decide_eq_false_iff_not, Bool.not_eq_true', Bool.not_eq_false', Bool.not_not, Bool.not_true, Bool.not_false, true_and, and_true, false_and, and_false, imp_self, implies_true, not_false_eq_true, not_true_eq_false, true_implies, false_implies, Bool.true_eq_false, Bool.false_eq_true, forall_const, Nat.reduceAdd, Nat.reduceSub, Nat.reduceEqDiff, Nat.reduceLeDiff, mulOk_iff, divOk_iff, modOk_iff, powOk_iff, small_iff, isa_int_non, isa_int_bl, isa_int_int, isa_int_str, isa_int_tup, isa_int_lst, isa_int_wls, isa_int_dic, isa_bool_non, isa_bool_bl, isa_bool_int, isa_bool_str, isa_bool_tup, isa_bool_lst, isa_bool_wls, isa_bool_dic, isa_str_non, isa_str_bl, isa_str_int, isa_str_str, isa_str_tup, isa_str_lst, isa_str_wls, isa_str_dic, isa_list_non, isa_list_bl, isa_list_int, isa_list_str, isa_list_tup, isa_list_lst, isa_list_wls, isa_list_dic, isa_tuple_non, isa_tuple_bl, isa_tuple_int, isa_tuple_str, isa_tuple_tup, isa_tuple_lst, isa_tuple_wls, isa_tuple_dic, isa_list_tuple_non, isa_list_tuple_bl, isa_list_tuple_int, isa_list_tuple_str, isa_list_tuple_tup, isa_list_tuple_lst, isa_list_tuple_wls, isa_list_tuple_dic, isa_int_str_non, isa_int_str_bl, isa_int_str_int, isa_int_str_str, isa_int_str_tup, isa_int_str_lst, isa_int_str_wls, isa_int_str_dic, isa_str_int_non, isa_str_int_bl, isa_str_int_int, isa_str_int_str, isa_str_int_tup, isa_str_int_lst, isa_str_int_wls, isa_str_int_dic, isa_tuple_list_non, isa_tuple_list_bl, isa_tuple_list_int, isa_tuple_list_str, isa_tuple_list_tup, isa_tuple_list_lst, isa_tuple_list_wls, isa_tuple_list_dic, dIsN_bl, dNotN_bl, dIsN_int, dNotN_int, dIsN_str, dNotN_str, dIsN_tup, dNotN_tup, dIsN_lst, dNotN_lst, dIsN_wls, dNotN_wls, dIsN_dic, dNotN_dic, dIsN_non, dNotN_non, tru_bl, tru_non, tru_int, tru_lst, tru_wls, tru_tup, int_int, back_val', back_own', back_non, sts_at (b := b) (n := k + 1) g0 (by omega), sts_len]
    refine ⟨by omega, k + 1, .val (.int k), by omega, ?_⟩
    rw [sts_succ b (k + 1), show vs b (k + 1 : Nat) = vs b k + b + k by rw [← vs_succ]; rfl]
  · rintro ρ ⟨k, x, hk, rfl⟩
    have : k = n := by omega
    subst this
    refine hK2 _ ?_
    simp only [Wp_ret, Wp_no, Wp_bnd, Wp_ite, Raw.stay_val, Raw.stay_bor, Wp_m2, Wp_var, Wp_peek, Wp_move, Wp_frz, Raw.frz_own, Raw.frz_val, Raw.frz_lst, Wp_gI, Wp_gD, Wp_g1, Wp_g2I, Raw.dt_val, Raw.dt_own, Raw.dt_bor, Wp_isa, Wp_bool, Wp_tru, Wp_not, Wp_and, Wp_or, Wp_ofB, Wp_if, Wp_andV, Wp_orV, Wp_un, Wp_nil, Wp_cons, Raw.datas_nil, Raw.datas_cons, Raw.vals_nil, Raw.vals_cons, Wp_tup, Wp_lst, Wp_call, Wp_callO, Wp_set, Wp_app, Wp_pop, Wp_rev, Wp_range1, Wp_range2, Wp_err, Wp_erris, Ws_nx, Ws_bk, Ws_ct, Ws_retN, Ws_expr, Ws_ret, Ws_if, Ws_set, Ws_par, Ws_unp, Ws_raise, Ws_raise0, dEq_ii, dNe_ii, dLen_lst, dLen_wls, dLen_tup, ix_lst, ix_wls, ix_tup', enF, gSet, gTupD, gsCons, gsNil, ↓reduceIte, List.getElem?_cons_zero, List.getElem?_cons_succ, List.getElem?_nil, List.set_cons_zero, List.set_cons_succ, List.set_nil, List.length_cons, List.length_nil, List.replicate, List.cons_append, List.nil_append, List.append_nil, List.take, Option.map_some, decide_eq_true_eq, decide_eq_false_iff_not, Bool.not_eq_true', Bool.not_eq_false', Bool.not_not, Bool.not_true, Bool.not_false, true_and, and_true, false_and, and_false, imp_self, implies_true, not_false_eq_true, not_true_eq_false, true_implies, false_implies, Bool.true_eq_false, Bool.false_eq_true, forall_const, Nat.reduceAdd, Nat.reduceSub, Nat.reduceEqDiff, Nat.reduceLeDiff, mulOk_iff, divOk_iff, modOk_iff, powOk_iff, small_iff, isa_int_non, isa_int_bl, isa_int_int, isa_int_str, isa_int_tup, isa_int_lst, isa_int_wls, isa_int_dic, isa_bool_non, isa_bool_bl, isa_bool_int, isa_bool_str, isa_bool_tup, isa_bool_lst, isa_bool_wls, isa_bool_dic, isa_str_non, isa_str_bl, isa_str_int, isa_str_str, isa_str_tup, isa_str_lst, isa_str_wls, isa_str_dic, isa_list_non, isa_list_bl, isa_list_int, isa_list_str, isa_list_tup, isa_list_lst, isa_list_wls, isa_list_dic, isa_tuple_non, isa_tuple_bl, isa_tuple_int, isa_tuple_str, isa_tuple_tup, isa_tuple_lst, isa_tuple_wls, isa_tuple_dic, isa_list_tuple_non, isa_list_tuple_bl, isa_list_tuple_int, isa_list_tuple_str, isa_list_tuple_tup, isa_list_tuple_lst, isa_list_tuple_wls, isa_list_tuple_dic, isa_int_str_non, isa_int_str_bl, isa_int_str_int, isa_int_str_str, isa_int_str_tup, isa_int_str_lst, isa_int_str_wls, isa_int_str_dic, isa_str_int_non, isa_str_int_bl, isa_str_int_int, isa_str_int_str, isa_str_int_tup, isa_str_int_lst, isa_str_int_wls, isa_str_int_dic, isa_tuple_list_non, isa_tuple_list_bl, isa_tuple_list_int, isa_tuple_list_str, isa_tuple_list_tup, isa_tuple_list_lst, isa_tuple_list_wls, isa_tuple_list_dic, dIsN_bl, dNotN_bl, dIsN_int, dNotN_int, dIsN_str, dNotN_str, dIsN_tup, dNotN_tup, dIsN_lst, dNotN_lst, dIsN_wls, dNotN_wls, dIsN_dic, dNotN_dic, dIsN_non, dNotN_non, tru_bl, tru_non, tru_int, tru_lst, tru_wls, tru_tup, int_int, back_val', back_own', back_non]
    exact q _
theorem w_in {b c r : Int} {n : Nat} (hn : n < 1000000) (hb : 1 ≤ b) (hr : 0 ≤ r) (h1 : vs b r ≤ c) (h2 : c < vs b (r + 1)) (hrn : r < n) (q : ∀ ls, Q (.val (.int r)) ls) : Wo (m_law_in [.val (.lst (sts b n)), .val (.int c)]) Q E := by
  unfold m_law_in
  refine wo_fn ?_
  unfold b_law_in
  refine ws_seq fun K hK => ?_
  simp only [Wp_ret, Wp_no, Wp_bnd, Wp_ite, Raw.stay_val, Raw.stay_bor, Wp_m2, Wp_var, Wp_peek, Wp_move, Wp_frz, Raw.frz_own, Raw.frz_val, Raw.frz_lst, Wp_gI, Wp_gD, Wp_g1, Wp_g2I, Raw.dt_val, Raw.dt_own, Raw.dt_bor, Wp_isa, Wp_bool, Wp_tru, Wp_not, Wp_and, Wp_or, Wp_ofB, Wp_if, Wp_andV, Wp_orV, Wp_un, Wp_nil, Wp_cons, Raw.datas_nil, Raw.datas_cons, Raw.vals_nil, Raw.vals_cons, Wp_tup, Wp_lst, Wp_call, Wp_callO, Wp_set, Wp_app, Wp_pop, Wp_rev, Wp_range1, Wp_range2, Wp_err, Wp_erris, Ws_nx, Ws_bk, Ws_ct, Ws_retN, Ws_expr, Ws_ret, Ws_if, Ws_set, Ws_par, Ws_unp, Ws_raise, Ws_raise0, dEq_ii, dNe_ii, dLen_lst, dLen_wls, dLen_tup, ix_lst, ix_wls, ix_tup', enF, gSet, gTupD, gsCons, gsNil, ↓reduceIte, List.getElem?_cons_zero, List.getElem?_cons_succ, List.getElem?_nil, List.set_cons_zero, List.set_cons_succ, List.set_nil, List.length_cons, List.length_nil, List.replicate, List.cons_append, List.nil_append, List.append_nil, List.take, Option.map_some, decide_eq_true_eq, decide_eq_false_iff_not, Bool.not_eq_true', Bool.not_eq_false', Bool.not_not, Bool.not_true, Bool.not_false, true_and, and_true, false_and, and_false, imp_self, implies_true, not_false_eq_true, not_true_eq_false, true_implies, false_implies, Bool.true_eq_false, Bool.false_eq_true, forall_const, Nat.reduceAdd, Nat.reduceSub, Nat.reduceEqDiff, Nat.reduceLeDiff, mulOk_iff, divOk_iff, modOk_iff, powOk_iff, small_iff, isa_int_non, isa_int_bl, isa_int_int, isa_int_str, isa_int_tup, isa_int_lst, isa_int_wls, isa_int_dic, isa_bool_non, isa_bool_bl, isa_bool_int, isa_bool_str, isa_bool_tup, isa_bool_lst, isa_bool_wls, isa_bool_dic, isa_str_non, isa_str_bl, isa_str_int, isa_str_str, isa_str_tup, isa_str_lst, isa_str_wls, isa_str_dic, isa_list_non, isa_list_bl, isa_list_int, isa_list_str, isa_list_tup, isa_list_lst, isa_list_wls, isa_list_dic, isa_tuple_non, isa_tuple_bl, isa_tuple_int, isa_tuple_str, isa_tuple_tup, isa_tuple_lst, isa_tuple_wls, isa_tuple_dic, isa_list_tuple_non, isa_list_tuple_bl, isa_list_tuple_int, isa_list_tuple_str, isa_list_tuple_tup, isa_list_tuple_lst, isa_list_tuple_wls, isa_list_tuple_dic, isa_int_str_non, isa_int_str_bl, isa_int_str_int, isa_int_str_str, isa_int_str_tup, isa_int_str_lst, isa_int_str_wls, isa_int_str_dic, isa_str_int_non, isa_str_int_bl, isa_str_int_int, isa_str_int_str, isa_str_int_tup, isa_str_int_lst, isa_str_int_wls, isa_str_int_dic, isa_tuple_list_non, isa_tuple_list_bl, isa_tuple_list_int, isa_tuple_list_str, isa_tuple_list_tup, isa_tuple_list_lst, isa_tuple_list_wls, isa_tuple_list_dic, dIsN_bl, dNotN_bl, dIsN_int, dNotN_int, dIsN_str, dNotN_str, dIsN_tup, dNotN_tup, dIsN_lst, dNotN_lst, dIsN_wls, dNotN_wls, dIsN_dic, dNotN_dic, dIsN_non, dNotN_non, tru_bl, tru_non, tru_int, tru_lst, tru_wls, tru_tup, int_int, back_val', back_own', back_non]
  refine hK _ ?_
  refine ws_seq fun K2 hK2 => ?_
  refine ws_for ?_
  simp only [Wp_ret, Wp_no, Wp_bnd, Wp_ite, Raw.stay_val, Raw.stay_bor, Wp_m2, Wp_var, Wp_peek, Wp_move, Wp_frz, Raw.frz_own, Raw.frz_val, Raw.frz_lst, Wp_gI, Wp_gD, Wp_g1, Wp_g2I, Raw.dt_val, Raw.dt_own, Raw.dt_bor, Wp_isa, Wp_bool, Wp_tru, Wp_not, Wp_and, Wp_or, Wp_ofB, Wp_if, Wp_andV, Wp_orV, Wp_un, Wp_nil, Wp_cons, Raw.datas_nil, Raw.datas_cons, Raw.vals_nil, Raw.vals_cons, Wp_tup, Wp_lst, Wp_call, Wp_callO, Wp_set, Wp_app, Wp_pop, Wp_rev, Wp_range1, Wp_range2, Wp_err, Wp_erris, Ws_nx, Ws_bk, Ws_ct, Ws_retN, Ws_expr, Ws_ret, Ws_if, Ws_set, Ws_par, Ws_unp, Ws_raise, Ws_raise0, dEq_ii, dNe_ii, dLen_lst, dLen_wls, dLen_tup, ix_lst, ix_wls, ix_tup', enF, gSet, gTupD, gsCons, gsNil, ↓reduceIte, List.getElem?_cons_zero, List.getElem?_cons_succ, List.getElem?_nil, List.set_cons_zero, List.set_cons_succ, List.set_nil, List.length_cons, List.length_nil, List.replicate, List.cons_append, List.nil_append, List.append_nil, List.take, Option.map_some, decide_eq_true_eq, decide_eq_false_iff_not, Bool.not_eq_true', Bool.not_eq_false', Bool.not_not, Bool.not_true, Bool.not_false, true_and, and_true, false_and, and_false, imp_self, implies_true, not_false_eq_true, not_true_eq_false, true_implies, false_implies, Bool.true_eq_false, Bool.false_eq_true, forall_const, Nat.reduceAdd, Nat.reduceSub, Nat.reduceEqDiff, Nat.reduceLeDiff, mulOk_iff, divOk_iff, modOk_iff, powOk_iff, small_iff, isa_int_non, isa_int_bl, isa_int_int, isa_int_str, isa_int_tup, isa_int_lst, isa_int_wls, isa_int_dic, isa_bool_non, isa_bool_bl, isa_bool_int, isa_bool_str, isa_bool_tup, isa_bool_lst, isa_bool_wls, isa_bool_dic, isa_str_non, isa_str_bl, isa_str_int, isa_str_str, isa_str_tup, isa_str_lst, isa_str_wls, isa_str_dic, isa_list_non, isa_list_bl, isa_list_int, isa_list_str, isa_list_tup, isa_list_lst, isa_list_wls, isa_list_dic, isa_tuple_non, isa_tuple_bl, isa_tuple_int, isa_tuple_str, isa_tuple_tup, isa_tuple_lst, isa_tuple_wls, isa_tuple_dic, isa_list_tuple_non, isa_list_tuple_bl, isa_list_tuple_int, isa_list_tuple_str, isa_list_tuple_tup, isa_list_tuple_lst, isa_list_tuple_wls, isa_list_tuple_dic, isa_int_str_non, isa_int_str_bl, isa_int_str_int, isa_int_str_str, isa_int_str_tup, isa_int_str_lst, isa_int_str_wls, isa_int_str_dic, isa_str_int_non, isa_str_int_bl, isa_str_int_int, isa_str_int_str, isa_str_int_tup, isa_str_int_lst, isa_str_int_wls, isa_str_int_dic, isa_tuple_list_non, isa_tuple_list_bl, isa_tuple_list_int, isa_tuple_list_str, isa_tuple_list_tup, isa_tuple_list_lst, isa_tuple_list_wls, isa_tuple_list_dic, dIsN_bl, dNotN_bl, dIsN_int, dNotN_int, dIsN_str, dNotN_str, dIsN_tup, dNotN_tup, dIsN_lst, dNotN_lst, dIsN_wls, dNotN_wls, dIsN_dic, dNotN_dic, dIsN_non, dNotN_non, tru_bl, tru_non, tru_int, tru_lst, tru_wls, tru_tup, int_int, back_val', back_own', back_non, sts_len]
  refine ⟨by omega, ?_⟩
  refine ws_forR (fun i ρ => ∃ (x : L), ρ = [.val (.lst (sts b n)), .val (.int c), .val (.int (if i ≤ r then (if i = 0 then 0 else i - 1) else r)), x]) ⟨_, by rw [if_pos hr, if_pos rfl]⟩ (by omega) ?_ ?_
  · rintro i ρ g0 g1 ⟨x, rfl⟩
    simp only [Wp_ret, Wp_no, Wp_bnd, Wp_ite, Raw.stay_val, Raw.stay_bor, Wp_m2, Wp_var, Wp_peek, Wp_move, Wp_frz, Raw.frz_own, Raw.frz_val, Raw.frz_lst, Wp_gI, Wp_gD, Wp_g1, Wp_g2I, Raw.dt_val, Raw.dt_own, Raw.dt_bor, Wp_isa, Wp_bool, Wp_tru, Wp_not, Wp_and, Wp_or, Wp_ofB, Wp_if, Wp_andV, Wp_orV, Wp_un, Wp_nil, Wp_cons, Raw.datas_nil, Raw.datas_cons, Raw.vals_nil, Raw.vals_cons, Wp_tup, Wp_lst, Wp_call, Wp_callO, Wp_set, Wp_app, Wp_pop, Wp_rev, Wp_range1, Wp_range2, Wp_err, Wp_erris, Ws_nx, Ws_bk, Ws_ct, Ws_retN, Ws_expr, Ws_ret, Ws_if, Ws_set, Ws_par, Ws_unp, Ws_raise, Ws_raise0, dEq_ii, dNe_ii, dLen_lst, dLen_wls, dLen_tup, ix_lst, ix_wls, ix_tup', enF, gSet, gTupD, gsCons, gsNil, ↓reduceIte, List.getElem?_cons_zero, List.getElem?_cons_succ, List.getElem?_nil, List.set_cons_zero, List.set_cons_succ, List.set_nil, List.length_cons, List.length_nil, List.replicate, List.cons_append, List.nil_append, List.append_nil, List.take, Option.map_some, decide_eq_true_eq, decide_eq_false_iff_not, Bool.not_eq_true', Bool.not_eq_false', Bool.not_not, Bool.not_true, Bool.not_false, true_and, and_true, false_and, and_false, imp_self, implies_true, not_false_eq_true, not_true_eq_false, true_implies, false_implies, Bool.true_eq_false, Bool.false_eq_true, forall_const, Nat.reduceAdd, Nat.reduceSub, Nat.reduceEqDiff, Nat.reduceLeDiff, mulOk_iff, divOk_iff, modOk_iff, powOk_iff, small_iff, isa_int_non, isa_int_bl, isa_int_int, isa_int_str, isa_int_tup, isa_int_lst, isa_int_wls, isa_int_dic, isa_bool_non, isa_bool_bl, isa_bool_int, isa_bool_str, isa_bool_tup, isa_bool_lst, isa_bool_wls, isa_bool_dic, isa_str_non, isa_str_bl, isa_str_int, isa_str_str, isa_str_tup, isa_str_lst, isa_str_wls, isa_str_dic, isa_list_non, isa_list_bl, isa_list_int, isa_list_str, isa_list_tup, isa_list_lst, isa_list_wls, isa_list_dic, isa_tuple_non, isa_tuple_bl, isa_tuple_int, isa_tuple_str, isa_tuple_tup, isa_tuple_lst, isa_tuple_wls, isa_tuple_dic, isa_list_tuple_non, isa_list_tuple_bl, isa_list_tuple_int, isa_list_tuple_str, isa_list_tuple_tup, isa_list_tuple_lst, isa_list_tuple_wls, isa_list_tuple_dic, isa_int_str_non, isa_int_str_bl, isa_int_str_int, isa_int_str_str, isa_int_str_tup, isa_int_str_lst, isa_int_str_wls, isa_int_str_dic, isa_str_int_non, isa_str_int_bl, isa_str_int_int, isa_str_int_str, isa_str_int_tup, isa_str_int_lst, isa_str_int_wls, isa_str_int_dic, isa_tuple_list_non, isa_tuple_list_bl, isa_tuple_list_int, isa_tuple_list_str, isa_tuple_list_tup, isa_tuple_list_lst, isa_tuple_list_wls, isa_tuple_list_dic, dIsN_bl, dNotN_bl, dIsN_int, dNotN_int, dIsN_str, dNotN_str, dIsN_tup, dNotN_tup, dIsN_lst, dNotN_lst, dIsN_wls, dNotN_wls, dIsN_dic, dNotN_dic, dIsN_non, dNotN_non, tru_bl, tru_non, tru_int, tru_lst, tru_wls, tru_tup, int_int, back_val', back_own', back_non, sts_at (b := b) (n := n) g0 (by omega)]
    refine ⟨fun z => ⟨.val (.int i), ?_⟩, fun z => ⟨.val (.int i), ?_⟩⟩
    · have hir : i ≤ r := by
        rcases Int.lt_or_le r i with h | h
        · rcases Int.lt_or_eq_of_le (show r + 1 ≤ i by omega) with y | y
          · have := vs_mono hb (show 0 ≤ r + 1 by omega) y; omega
          · rw [← y] at z; omega
        · exact h
      by_cases hir2 : i + 1 ≤ r
      · rw [if_pos hir2, if_neg (by omega)]; simp
      · rw [if_neg hir2, show i = r by omega]
    · have hir : r < i := by
        rcases Int.lt_or_le r i with h | h
        · exact h
        · rcases Int.lt_or_eq_of_le h with y | y
          · have := vs_mono hb g0 y; omega
          · rw [y] at z; omega
      rw [if_neg (by omega), if_neg (by omega)]
  · rintro ρ ⟨x, rfl⟩
    refine hK2 _ ?_
    simp only [Wp_ret, Wp_no, Wp_bnd, Wp_ite, Raw.stay_val, Raw.stay_bor, Wp_m2, Wp_var, Wp_peek, Wp_move, Wp_frz, Raw.frz_own, Raw.frz_val, Raw.frz_lst, Wp_gI, Wp_gD, Wp_g1, Wp_g2I, Raw.dt_val, Raw.dt_own, Raw.dt_bor, Wp_isa, Wp_bool, Wp_tru, Wp_not, Wp_and, Wp_or, Wp_ofB, Wp_if, Wp_andV, Wp_orV, Wp_un, Wp_nil, Wp_cons, Raw.datas_nil, Raw.datas_cons, Raw.vals_nil, Raw.vals_cons, Wp_tup, Wp_lst, Wp_call, Wp_callO, Wp_set, Wp_app, Wp_pop, Wp_rev, Wp_range1, Wp_range2, Wp_err, Wp_erris, Ws_nx, Ws_bk, Ws_ct, Ws_retN, Ws_expr, Ws_ret, Ws_if, Ws_set, Ws_par, Ws_unp, Ws_raise, Ws_raise0, dEq_ii, dNe_ii, dLen_lst, dLen_wls, dLen_tup, ix_lst, ix_wls, ix_tup', enF, gSet, gTupD, gsCons, gsNil, ↓reduceIte, List.getElem?_cons_zero, List.getElem?_cons_succ, List.getElem?_nil, List.set_cons_zero, List.set_cons_succ, List.set_nil, List.length_cons, List.length_nil, List.replicate, List.cons_append, List.nil_append, List.append_nil, List.take, Option.map_some, decide_eq_true_eq, decide_eq_false_iff_not, Bool.not_eq_true', Bool.not_eq_false', Bool.not_not, Bool.not_true, Bool.not_false, true_and, and_true, false_and, and_false, imp_self, implies_true, not_false_eq_true, not_true_eq_false, true_implies, false_implies, Bool.true_eq_false, Bool.false_eq_true, forall_const, Nat.reduceAdd, Nat.reduceSub, Nat.reduceEqDiff, Nat.reduceLeDiff, mulOk_iff, divOk_iff, modOk_iff, powOk_iff, small_iff, isa_int_non, isa_int_bl, isa_int_int, isa_int_str, isa_int_tup, isa_int_lst, isa_int_wls, isa_int_dic, isa_bool_non, isa_bool_bl, isa_bool_int, isa_bool_str, isa_bool_tup, isa_bool_lst, isa_bool_wls, isa_bool_dic, isa_str_non, isa_str_bl, isa_str_int, isa_str_str, isa_str_tup, isa_str_lst, isa_str_wls, isa_str_dic, isa_list_non, isa_list_bl, isa_list_int, isa_list_str, isa_list_tup, isa_list_lst, isa_list_wls, isa_list_dic, isa_tuple_non, isa_tuple_bl, isa_tuple_int, isa_tuple_str, isa_tuple_tup, isa_tuple_lst, isa_tuple_wls, isa_tuple_dic, isa_list_tuple_non, isa_list_tuple_bl, isa_list_tuple_int, isa_list_tuple_str, isa_list_tuple_tup, isa_list_tuple_lst, isa_list_tuple_wls, isa_list_tuple_dic, isa_int_str_non, isa_int_str_bl, isa_int_str_int, isa_int_str_str, isa_int_str_tup, isa_int_str_lst, isa_int_str_wls, isa_int_str_dic, isa_str_int_non, isa_str_int_bl, isa_str_int_int, isa_str_int_str, isa_str_int_tup, isa_str_int_lst, isa_str_int_wls, isa_str_int_dic, isa_tuple_list_non, isa_tuple_list_bl, isa_tuple_list_int, isa_tuple_list_str, isa_tuple_list_tup, isa_tuple_list_lst, isa_tuple_list_wls, isa_tuple_list_dic, dIsN_bl, dNotN_bl, dIsN_int, dNotN_int, dIsN_str, dNotN_str, dIsN_tup, dNotN_tup, dIsN_lst, dNotN_lst, dIsN_wls, dNotN_wls, dIsN_dic, dNotN_dic, dIsN_non, dNotN_non, tru_bl, tru_non, tru_int, tru_lst, tru_wls, tru_tup, int_int, back_val', back_own', back_non]
    rw [if_neg (by omega)]
    exact q _
theorem w_right {b c : Int} {n : Nat} (hn : n < 1000000) (hb : 1 ≤ b) (hb2 : b < 2 ^ 40) (hc : 0 ≤ c) (hc2 : c < 2 ^ 40) (hcn : c < vs b n) (q : ∀ ls, Q (.val (.bl true)) ls) : Wo (m_law_clock_right [.val (.int b), .val (.lst (sts b n)), .val (.int c)]) Q E := by
  unfold m_law_clock_right
  refine wo_fn ?_
  unfold b_law_clock_right
  refine ws_seq fun K hK => ?_
  simp only [Wp_ret, Wp_no, Wp_bnd, Wp_ite, Raw.stay_val, Raw.stay_bor, Wp_m2, Wp_var, Wp_peek, Wp_move, Wp_frz, Raw.frz_own, Raw.frz_val, Raw.frz_lst, Wp_gI, Wp_gD, Wp_g1, Wp_g2I, Raw.dt_val, Raw.dt_own, Raw.dt_bor, Wp_isa, Wp_bool, Wp_tru, Wp_not, Wp_and, Wp_or, Wp_ofB, Wp_if, Wp_andV, Wp_orV, Wp_un, Wp_nil, Wp_cons, Raw.datas_nil, Raw.datas_cons, Raw.vals_nil, Raw.vals_cons, Wp_tup, Wp_lst, Wp_call, Wp_callO, Wp_set, Wp_app, Wp_pop, Wp_rev, Wp_range1, Wp_range2, Wp_err, Wp_erris, Ws_nx, Ws_bk, Ws_ct, Ws_retN, Ws_expr, Ws_ret, Ws_if, Ws_set, Ws_par, Ws_unp, Ws_raise, Ws_raise0, dEq_ii, dNe_ii, dLen_lst, dLen_wls, dLen_tup, ix_lst, ix_wls, ix_tup', enF, gSet, gTupD, gsCons, gsNil, ↓reduceIte, List.getElem?_cons_zero, List.getElem?_cons_succ, List.getElem?_nil, List.set_cons_zero, List.set_cons_succ, List.set_nil, List.length_cons, List.length_nil, List.replicate, List.cons_append, List.nil_append, List.append_nil, List.take, Option.map_some, decide_eq_true_eq, decide_eq_false_iff_not, Bool.not_eq_true', Bool.not_eq_false', Bool.not_not, Bool.not_true, Bool.not_false, true_and, and_true, false_and, and_false, imp_self, implies_true, not_false_eq_true, not_true_eq_false, true_implies, false_implies, Bool.true_eq_false, Bool.false_eq_true, forall_const, Nat.reduceAdd, Nat.reduceSub, Nat.reduceEqDiff, Nat.reduceLeDiff, mulOk_iff, divOk_iff, modOk_iff, powOk_iff, small_iff, isa_int_non, isa_int_bl, isa_int_int, isa_int_str, isa_int_tup, isa_int_lst, isa_int_wls, isa_int_dic, isa_bool_non, isa_bool_bl, isa_bool_int, isa_bool_str, isa_bool_tup, isa_bool_lst, isa_bool_wls, isa_bool_dic, isa_str_non, isa_str_bl, isa_str_int, isa_str_str, isa_str_tup, isa_str_lst, isa_str_wls, isa_str_dic, isa_list_non, isa_list_bl, isa_list_int, isa_list_str, isa_list_tup, isa_list_lst, isa_list_wls, isa_list_dic, isa_tuple_non, isa_tuple_bl, isa_tuple_int, isa_tuple_str, isa_tuple_tup, isa_tuple_lst, isa_tuple_wls, isa_tuple_dic, isa_list_tuple_non, isa_list_tuple_bl, isa_list_tuple_int, isa_list_tuple_str, isa_list_tuple_tup, isa_list_tuple_lst, isa_list_tuple_wls, isa_list_tuple_dic, isa_int_str_non, isa_int_str_bl, isa_int_str_int, isa_int_str_str, isa_int_str_tup, isa_int_str_lst, isa_int_str_wls, isa_int_str_dic, isa_str_int_non, isa_str_int_bl, isa_str_int_int, isa_str_int_str, isa_str_int_tup, isa_str_int_lst, isa_str_int_wls, isa_str_int_dic, isa_tuple_list_non, isa_tuple_list_bl, isa_tuple_list_int, isa_tuple_list_str, isa_tuple_list_tup, isa_tuple_list_lst, isa_tuple_list_wls, isa_tuple_list_dic, dIsN_bl, dNotN_bl, dIsN_int, dNotN_int, dIsN_str, dNotN_str, dIsN_tup, dNotN_tup, dIsN_lst, dNotN_lst, dIsN_wls, dNotN_wls, dIsN_dic, dNotN_dic, dIsN_non, dNotN_non, tru_bl, tru_non, tru_int, tru_lst, tru_wls, tru_tup, int_int, back_val', back_own', back_non]
  refine w_at hb hb2 hc hc2 fun r _ h0 h1 h2 => ?_
  refine hK _ ?_
  have hrn : r < n := by
    rcases Int.lt_or_le r n with h | h
    · exact h
    · rcases Int.lt_or_eq_of_le h with y | y
      · have := vs_mono hb (show (0 : Int) ≤ n by omega) y; omega
      · rw [y] at hcn; omega
  simp only [Wp_ret, Wp_no, Wp_bnd, Wp_ite, Raw.stay_val, Raw.stay_bor, Wp_m2, Wp_var, Wp_peek, Wp_move, Wp_frz, Raw.frz_own, Raw.frz_val, Raw.frz_lst, Wp_gI, Wp_gD, Wp_g1, Wp_g2I, Raw.dt_val, Raw.dt_own, Raw.dt_bor, Wp_isa, Wp_bool, Wp_tru, Wp_not, Wp_and, Wp_or, Wp_ofB, Wp_if, Wp_andV, Wp_orV, Wp_un, Wp_nil, Wp_cons, Raw.datas_nil, Raw.datas_cons, Raw.vals_nil, Raw.vals_cons, Wp_tup, Wp_lst, Wp_call, Wp_callO, Wp_set, Wp_app, Wp_pop, Wp_rev, Wp_range1, Wp_range2, Wp_err, Wp_erris, Ws_nx, Ws_bk, Ws_ct, Ws_retN, Ws_expr, Ws_ret, Ws_if, Ws_set, Ws_par, Ws_unp, Ws_raise, Ws_raise0, dEq_ii, dNe_ii, dLen_lst, dLen_wls, dLen_tup, ix_lst, ix_wls, ix_tup', enF, gSet, gTupD, gsCons, gsNil, ↓reduceIte, List.getElem?_cons_zero, List.getElem?_cons_succ, List.getElem?_nil, List.set_cons_zero, List.set_cons_succ, List.set_nil, List.length_cons, List.length_nil, List.replicate, List.cons_append, List.nil_append, List.append_nil, List.take, Option.map_some, decide_eq_true_eq, decide_eq_false_iff_not, Bool.not_eq_true', Bool.not_eq_false', Bool.not_not, Bool.not_true, Bool.not_false, true_and, and_true, false_and, and_false, imp_self, implies_true, not_false_eq_true, not_true_eq_false, true_implies, false_implies, Bool.true_eq_false, Bool.false_eq_true, forall_const, Nat.reduceAdd, Nat.reduceSub, Nat.reduceEqDiff, Nat.reduceLeDiff, mulOk_iff, divOk_iff, modOk_iff, powOk_iff, small_iff, isa_int_non, isa_int_bl, isa_int_int, isa_int_str, isa_int_tup, isa_int_lst, isa_int_wls, isa_int_dic, isa_bool_non, isa_bool_bl, isa_bool_int, isa_bool_str, isa_bool_tup, isa_bool_lst, isa_bool_wls, isa_bool_dic, isa_str_non, isa_str_bl, isa_str_int, isa_str_str, isa_str_tup, isa_str_lst, isa_str_wls, isa_str_dic, isa_list_non, isa_list_bl, isa_list_int, isa_list_str, isa_list_tup, isa_list_lst, isa_list_wls, isa_list_dic, isa_tuple_non, isa_tuple_bl, isa_tuple_int, isa_tuple_str, isa_tuple_tup, isa_tuple_lst, isa_tuple_wls, isa_tuple_dic, isa_list_tuple_non, isa_list_tuple_bl, isa_list_tuple_int, isa_list_tuple_str, isa_list_tuple_tup, isa_list_tuple_lst, isa_list_tuple_wls, isa_list_tuple_dic, isa_int_str_non, isa_int_str_bl, isa_int_str_int, isa_int_str_str, isa_int_str_tup, isa_int_str_lst, isa_int_str_wls, isa_int_str_dic, isa_str_int_non, isa_str_int_bl, isa_str_int_int, isa_str_int_str, isa_str_int_tup, isa_str_int_lst, isa_str_int_wls, isa_str_int_dic, isa_tuple_list_non, isa_tuple_list_bl, isa_tuple_list_int, isa_tuple_list_str, isa_tuple_list_tup, isa_tuple_list_lst, isa_tuple_list_wls, isa_tuple_list_dic, dIsN_bl, dNotN_bl, dIsN_int, dNotN_int, dIsN_str, dNotN_str, dIsN_tup, dNotN_tup, dIsN_lst, dNotN_lst, dIsN_wls, dNotN_wls, dIsN_dic, dNotN_dic, dIsN_non, dNotN_non, tru_bl, tru_non, tru_int, tru_lst, tru_wls, tru_tup, int_int, back_val', back_own', back_non]
  refine w_int fun _ => ?_
  simp only [Wp_ret, Wp_no, Wp_bnd, Wp_ite, Raw.stay_val, Raw.stay_bor, Wp_m2, Wp_var, Wp_peek, Wp_move, Wp_frz, Raw.frz_own, Raw.frz_val, Raw.frz_lst, Wp_gI, Wp_gD, Wp_g1, Wp_g2I, Raw.dt_val, Raw.dt_own, Raw.dt_bor, Wp_isa, Wp_bool, Wp_tru, Wp_not, Wp_and, Wp_or, Wp_ofB, Wp_if, Wp_andV, Wp_orV, Wp_un, Wp_nil, Wp_cons, Raw.datas_nil, Raw.datas_cons, Raw.vals_nil, Raw.vals_cons, Wp_tup, Wp_lst, Wp_call, Wp_callO, Wp_set, Wp_app, Wp_pop, Wp_rev, Wp_range1, Wp_range2, Wp_err, Wp_erris, Ws_nx, Ws_bk, Ws_ct, Ws_retN, Ws_expr, Ws_ret, Ws_if, Ws_set, Ws_par, Ws_unp, Ws_raise, Ws_raise0, dEq_ii, dNe_ii, dLen_lst, dLen_wls, dLen_tup, ix_lst, ix_wls, ix_tup', enF, gSet, gTupD, gsCons, gsNil, ↓reduceIte, List.getElem?_cons_zero, List.getElem?_cons_succ, List.getElem?_nil, List.set_cons_zero, List.set_cons_succ, List.set_nil, List.length_cons, List.length_nil, List.replicate, List.cons_append, List.nil_append, List.append_nil, List.take, Option.map_some, decide_eq_true_eq, decide_eq_false_iff_not, Bool.not_eq_true', Bool.not_eq_false', Bool.not_not, Bool.not_true, Bool.not_false, true_and, and_true, false_and, and_false, imp_self, implies_true, not_false_eq_true, not_true_eq_false, true_implies, false_implies, Bool.true_eq_false, Bool.false_eq_true, forall_const, Nat.reduceAdd, Nat.reduceSub, Nat.reduceEqDiff, Nat.reduceLeDiff, mulOk_iff, divOk_iff, modOk_iff, powOk_iff, small_iff, isa_int_non, isa_int_bl, isa_int_int, isa_int_str, isa_int_tup, isa_int_lst, isa_int_wls, isa_int_dic, isa_bool_non, isa_bool_bl, isa_bool_int, isa_bool_str, isa_bool_tup, isa_bool_lst, isa_bool_wls, isa_bool_dic, isa_str_non, isa_str_bl, isa_str_int, isa_str_str, isa_str_tup, isa_str_lst, isa_str_wls, isa_str_dic, isa_list_non, isa_list_bl, isa_list_int, isa_list_str, isa_list_tup, isa_list_lst, isa_list_wls, isa_list_dic, isa_tuple_non, isa_tuple_bl, isa_tuple_int, isa_tuple_str, isa_tuple_tup, isa_tuple_lst, isa_tuple_wls, isa_tuple_dic, isa_list_tuple_non, isa_list_tuple_bl, isa_list_tuple_int, isa_list_tuple_str, isa_list_tuple_tup, isa_list_tuple_lst, isa_list_tuple_wls, isa_list_tuple_dic, isa_int_str_non, isa_int_str_bl, isa_int_str_int, isa_int_str_str, isa_int_str_tup, isa_int_str_lst, isa_int_str_wls, isa_int_str_dic, isa_str_int_non, isa_str_int_bl, isa_str_int_int, isa_str_int_str, isa_str_int_tup, isa_str_int_lst, isa_str_int_wls, isa_str_int_dic, isa_tuple_list_non, isa_tuple_list_bl, isa_tuple_list_int, isa_tuple_list_str, isa_tuple_list_tup, isa_tuple_list_lst, isa_tuple_list_wls, isa_tuple_list_dic, dIsN_bl, dNotN_bl, dIsN_int, dNotN_int, dIsN_str, dNotN_str, dIsN_tup, dNotN_tup, dIsN_lst, dNotN_lst, dIsN_wls, dNotN_wls, dIsN_dic, dNotN_dic, dIsN_non, dNotN_non, tru_bl, tru_non, tru_int, tru_lst, tru_wls, tru_tup, int_int, back_val', back_own', back_non]
  refine w_in hn hb h0 h1 h2 hrn fun _ => ?_
  simp only [Wp_ret, Wp_no, Wp_bnd, Wp_ite, Raw.stay_val, Raw.stay_bor, Wp_m2, Wp_var, Wp_peek, Wp_move, Wp_frz, Raw.frz_own, Raw.frz_val, Raw.frz_lst, Wp_gI, Wp_gD, Wp_g1, Wp_g2I, Raw.dt_val, Raw.dt_own, Raw.dt_bor, Wp_isa, Wp_bool, Wp_tru, Wp_not, Wp_and, Wp_or, Wp_ofB, Wp_if, Wp_andV, Wp_orV, Wp_un, Wp_nil, Wp_cons, Raw.datas_nil, Raw.datas_cons, Raw.vals_nil, Raw.vals_cons, Wp_tup, Wp_lst, Wp_call, Wp_callO, Wp_set, Wp_app, Wp_pop, Wp_rev, Wp_range1, Wp_range2, Wp_err, Wp_erris, Ws_nx, Ws_bk, Ws_ct, Ws_retN, Ws_expr, Ws_ret, Ws_if, Ws_set, Ws_par, Ws_unp, Ws_raise, Ws_raise0, dEq_ii, dNe_ii, dLen_lst, dLen_wls, dLen_tup, ix_lst, ix_wls, ix_tup', enF, gSet, gTupD, gsCons, gsNil, ↓reduceIte, List.getElem?_cons_zero, List.getElem?_cons_succ, List.getElem?_nil, List.set_cons_zero, List.set_cons_succ, List.set_nil, List.length_cons, List.length_nil, List.replicate, List.cons_append, List.nil_append, List.append_nil, List.take, Option.map_some, decide_eq_true_eq, decide_eq_false_iff_not, Bool.not_eq_true', Bool.not_eq_false', Bool.not_not, Bool.not_true, Bool.not_false, true_and, and_true, false_and, and_false, imp_self, implies_true, not_false_eq_true, not_true_eq_false, true_implies, false_implies, Bool.true_eq_false, Bool.false_eq_true, forall_const, Nat.reduceAdd, Nat.reduceSub, Nat.reduceEqDiff, Nat.reduceLeDiff, mulOk_iff, divOk_iff, modOk_iff, powOk_iff, small_iff, isa_int_non, isa_int_bl, isa_int_int, isa_int_str, isa_int_tup, isa_int_lst, isa_int_wls, isa_int_dic, isa_bool_non, isa_bool_bl, isa_bool_int, isa_bool_str, isa_bool_tup, isa_bool_lst, isa_bool_wls, isa_bool_dic, isa_str_non, isa_str_bl, isa_str_int, isa_str_str, isa_str_tup, isa_str_lst, isa_str_wls, isa_str_dic, isa_list_non, isa_list_bl, isa_list_int, isa_list_str, isa_list_tup, isa_list_lst, isa_list_wls, isa_list_dic, isa_tuple_non, isa_tuple_bl, isa_tuple_int, isa_tuple_str, isa_tuple_tup, isa_tuple_lst, isa_tuple_wls, isa_tuple_dic, isa_list_tuple_non, isa_list_tuple_bl, isa_list_tuple_int, isa_list_tuple_str, isa_list_tuple_tup, isa_list_tuple_lst, isa_list_tuple_wls, isa_list_tuple_dic, isa_int_str_non, isa_int_str_bl, isa_int_str_int, isa_int_str_str, isa_int_str_tup, isa_int_str_lst, isa_int_str_wls, isa_int_str_dic, isa_str_int_non, isa_str_int_bl, isa_str_int_int, isa_str_int_str, isa_str_int_tup, isa_str_int_lst, isa_str_int_wls, isa_str_int_dic, isa_tuple_list_non, isa_tuple_list_bl, isa_tuple_list_int, isa_tuple_list_str, isa_tuple_list_tup, isa_tuple_list_lst, isa_tuple_list_wls, isa_tuple_list_dic, dIsN_bl, dNotN_bl, dIsN_int, dNotN_int, dIsN_str, dNotN_str, dIsN_tup, dNotN_tup, dIsN_lst, dNotN_lst, dIsN_wls, dNotN_wls, dIsN_dic, dNotN_dic, dIsN_non, dNotN_non, tru_bl, tru_non, tru_int, tru_lst, tru_wls, tru_tup, int_int, back_val', back_own', back_non]
  simpa using q _
/-- the refusals -/
def badV (d : Dt) : Prop := d = .int 0 ∨ d = .int (-1) ∨ d = .bl true ∨ d = .non
theorem w_check_bad {d : Dt} {nm : Str} {l : Int} (h : (∃ i, d = .int i ∧ i < l) ∨ d = .bl true ∨ d = .non) (q : ∀ ls, E ⟨"BadNumber", [("name", .str nm)]⟩ ls) : Wo (m_check_number [.val d, .val (.str nm), .val (.int l)]) Q E := by
  unfold m_check_number
  refine wo_fn ?_
  unfold b_check_number
  refine ws_seq fun K hK => ?_
  have e : X_name_fs.length = 1 := rfl
  rcases h with ⟨i, rfl, hi⟩ | rfl | rfl
  · simp only [Wp_ret, Wp_no, Wp_bnd, Wp_ite, Raw.stay_val, Raw.stay_bor, Wp_m2, Wp_var, Wp_peek, Wp_move, Wp_frz, Raw.frz_own, Raw.frz_val, Raw.frz_lst, Wp_gI, Wp_gD, Wp_g1, Wp_g2I, Raw.dt_val, Raw.dt_own, Raw.dt_bor, Wp_isa, Wp_bool, Wp_tru, Wp_not, Wp_and, Wp_or, Wp_ofB, Wp_if, Wp_andV, Wp_orV, Wp_un, Wp_nil, Wp_cons, Raw.datas_nil, Raw.datas_cons, Raw.vals_nil, Raw.vals_cons, Wp_tup, Wp_lst, Wp_call, Wp_callO, Wp_set, Wp_app, Wp_pop, Wp_rev, Wp_range1, Wp_range2, Wp_err, Wp_erris, Ws_nx, Ws_bk, Ws_ct, Ws_retN, Ws_expr, Ws_ret, Ws_if, Ws_set, Ws_par, Ws_unp, Ws_raise, Ws_raise0, dEq_ii, dNe_ii, dLen_lst, dLen_wls, dLen_tup, ix_lst, ix_wls, ix_tup', enF, gSet, gTupD, gsCons, gsNil, ↓reduceIte, List.getElem?_cons_zero, List.getElem?_cons_succ, List.getElem?_nil, List.set_cons_zero, List.set_cons_succ, List.set_nil, List.length_cons, List.length_nil, List.replicate, List.cons_append, List.nil_append, List.append_nil, List.take, Option.map_some, decide_eq_true_eq, decide_eq_false_iff_not, Bool.not_eq_true', Bool.not_eq_false', Bool.not_not, Bool.not_true, Bool.not_false, true_and, and_true, false_and, and_false, imp_self, implies_true, not_false_eq_true, not_true_eq_false, true_implies, false_implies, Bool.true_eq_false, Bool.false_eq_true, forall_const, Nat.reduceAdd, Nat.reduceSub, Nat.reduceEqDiff, Nat.reduceLeDiff, mulOk_iff, divOk_iff, modOk_iff, powOk_iff, small_iff, isa_int_non, isa_int_bl, isa_int_int, isa_int_str, isa_int_tup, isa_int_lst, isa_int_wls, isa_int_dic, isa_bool_non, isa_bool_bl, isa_bool_int, isa_bool_str, isa_bool_tup, isa_bool_lst, isa_bool_wls, isa_bool_dic, isa_str_non, isa_str_bl, isa_str_int, isa_str_str, isa_str_tup, isa_str_lst, isa_str_wls, isa_str_dic, isa_list_non, isa_list_bl, isa_list_int, isa_list_str, isa_list_tup, isa_list_lst, isa_list_wls, isa_list_dic, isa_tuple_non, isa_tuple_bl, isa_tuple_int, isa_tuple_str, isa_tuple_tup, isa_tuple_lst, isa_tuple_wls, isa_tuple_dic, isa_list_tuple_non, isa_list_tuple_bl, isa_list_tuple_int, isa_list_tuple_str, isa_list_tuple_tup, isa_list_tuple_lst, isa_list_tuple_wls, isa_list_tuple_dic, isa_int_str_non, isa_int_str_bl, isa_int_str_int, isa_int_str_str, isa_int_str_tup, isa_int_str_lst, isa_int_str_wls, isa_int_str_dic, isa_str_int_non, isa_str_int_bl, isa_str_int_int, isa_str_int_str, isa_str_int_tup, isa_str_int_lst, isa_str_int_wls, isa_str_int_dic, isa_tuple_list_non, isa_tuple_list_bl, isa_tuple_list_int, isa_tuple_list_str, isa_tuple_list_tup, isa_tuple_list_lst, isa_tuple_list_wls, isa_tuple_list_dic, dIsN_bl, dNotN_bl, dIsN_int, dNotN_int, dIsN_str, dNotN_str, dIsN_tup, dNotN_tup, dIsN_lst, dNotN_lst, dIsN_wls, dNotN_wls, dIsN_dic, dNotN_dic, dIsN_non, dNotN_non, tru_bl, tru_non, tru_int, tru_lst, tru_wls, tru_tup, int_int, back_val', back_own', back_non]
    refine w_num fun _ => ?_
    simp only [Wp_ret, Wp_no, Wp_bnd, Wp_ite, Raw.stay_val, Raw.stay_bor, Wp_m2, Wp_var, Wp_peek, Wp_move, Wp_frz, Raw.frz_own, Raw.frz_val, Raw.frz_lst, Wp_gI, Wp_gD, Wp_g1, Wp_g2I, Raw.dt_val, Raw.dt_own, Raw.dt_bor, Wp_isa, Wp_bool, Wp_tru, Wp_not, Wp_and, Wp_or, Wp_ofB, Wp_if, Wp_andV, Wp_orV, Wp_un, Wp_nil, Wp_cons, Raw.datas_nil, Raw.datas_cons, Raw.vals_nil, Raw.vals_cons, Wp_tup, Wp_lst, Wp_call, Wp_callO, Wp_set, Wp_app, Wp_pop, Wp_rev, Wp_range1, Wp_range2, Wp_err, Wp_erris, Ws_nx, Ws_bk, Ws_ct, Ws_retN, Ws_expr, Ws_ret, Ws_if, Ws_set, Ws_par, Ws_unp, Ws_raise, Ws_raise0, dEq_ii, dNe_ii, dLen_lst, dLen_wls, dLen_tup, ix_lst, ix_wls, ix_tup', enF, gSet, gTupD, gsCons, gsNil, ↓reduceIte, List.getElem?_cons_zero, List.getElem?_cons_succ, List.getElem?_nil, List.set_cons_zero, List.set_cons_succ, List.set_nil, List.length_cons, List.length_nil, List.replicate, List.cons_append, List.nil_append, List.append_nil, List.take, Option.map_some, decide_eq_true_eq, decide_eq_false_iff_not, Bool.not_eq_true', Bool.not_eq_false', Bool.not_not, Bool.not_true, Bool.not_false, true_and, and_true, false_and, and_false, imp_self, implies_true, not_false_eq_true, not_true_eq_false, true_implies, false_implies, Bool.true_eq_false, Bool.false_eq_true, forall_const, Nat.reduceAdd, Nat.reduceSub, Nat.reduceEqDiff, Nat.reduceLeDiff, mulOk_iff, divOk_iff, modOk_iff, powOk_iff, small_iff, isa_int_non, isa_int_bl, isa_int_int, isa_int_str, isa_int_tup, isa_int_lst, isa_int_wls, isa_int_dic, isa_bool_non, isa_bool_bl, isa_bool_int, isa_bool_str, isa_bool_tup, isa_bool_lst, isa_bool_wls, isa_bool_dic, isa_str_non, isa_str_bl, isa_str_int, isa_str_str, isa_str_tup, isa_str_lst, isa_str_wls, isa_str_dic, isa_list_non, isa_list_bl, isa_list_int, isa_list_str, isa_list_tup, isa_list_lst, isa_list_wls, isa_list_dic, isa_tuple_non, isa_tuple_bl, isa_tuple_int, isa_tuple_str, isa_tuple_tup, isa_tuple_lst, isa_tuple_wls, isa_tuple_dic, isa_list_tuple_non, isa_list_tuple_bl, isa_list_tuple_int, isa_list_tuple_str, isa_list_tuple_tup, isa_list_tuple_lst, isa_list_tuple_wls, isa_list_tuple_dic, isa_int_str_non, isa_int_str_bl, isa_int_str_int, isa_int_str_str, isa_int_str_tup, isa_int_str_lst, isa_int_str_wls, isa_int_str_dic, isa_str_int_non, isa_str_int_bl, isa_str_int_int, isa_str_int_str, isa_str_int_tup, isa_str_int_lst, isa_str_int_wls, isa_str_int_dic, isa_tuple_list_non, isa_tuple_list_bl, isa_tuple_list_int, isa_tuple_list_str, isa_tuple_list_tup, isa_tuple_list_lst, isa_tuple_list_wls, isa_tuple_list_dic, dIsN_bl, dNotN_bl, dIsN_int, dNotN_int, dIsN_str, dNotN_str, dIsN_tup, dNotN_tup, dIsN_lst, dNotN_lst, dIsN_wls, dNotN_wls, dIsN_dic, dNotN_dic, dIsN_non, dNotN_non, tru_bl, tru_non, tru_int, tru_lst, tru_wls, tru_tup, int_int, back_val', back_own', back_non, e, hi, not_true]
    exact q _
  · simp only [Wp_ret, Wp_no, Wp_bnd, Wp_ite, Raw.stay_val, Raw.stay_bor, Wp_m2, Wp_var, Wp_peek, Wp_move, Wp_frz, Raw.frz_own, Raw.frz_val, Raw.frz_lst, Wp_gI, Wp_gD, Wp_g1, Wp_g2I, Raw.dt_val, Raw.dt_own, Raw.dt_bor, Wp_isa, Wp_bool, Wp_tru, Wp_not, Wp_and, Wp_or, Wp_ofB, Wp_if, Wp_andV, Wp_orV, Wp_un, Wp_nil, Wp_cons, Raw.datas_nil, Raw.datas_cons, Raw.vals_nil, Raw.vals_cons, Wp_tup, Wp_lst, Wp_call, Wp_callO, Wp_set, Wp_app, Wp_pop, Wp_rev, Wp_range1, Wp_range2, Wp_err, Wp_erris, Ws_nx, Ws_bk, Ws_ct, Ws_retN, Ws_expr, Ws_ret, Ws_if, Ws_set, Ws_par, Ws_unp, Ws_raise, Ws_raise0, dEq_ii, dNe_ii, dLen_lst, dLen_wls, dLen_tup, ix_lst, ix_wls, ix_tup', enF, gSet, gTupD, gsCons, gsNil, ↓reduceIte, List.getElem?_cons_zero, List.getElem?_cons_succ, List.getElem?_nil, List.set_cons_zero, List.set_cons_succ, List.set_nil, List.length_cons, List.length_nil, List.replicate, List.cons_append, List.nil_append, List.append_nil, List.take, Option.map_some, decide_eq_true_eq, decide_eq_false_iff_not, Bool.not_eq_true', Bool.not_eq_false', Bool.not_not, Bool.not_true, Bool.not_false, true_and, and_true, false_and, and_false, imp_self, implies_true, not_false_eq_true, not_true_eq_false, true_implies, false_implies, Bool.true_eq_false, Bool.false_eq_true, forall_const, Nat.reduceAdd, Nat.reduceSub, Nat.reduceEqDiff, Nat.reduceLeDiff, mulOk_iff, divOk_iff, modOk_iff, powOk_iff, small_iff, isa_int_non, isa_int_bl, isa_int_int, isa_int_str, isa_int_tup, isa_int_lst, isa_int_wls, isa_int_dic, isa_bool_non, isa_bool_bl, isa_bool_int, isa_bool_str, isa_bool_tup, isa_bool_lst, isa_bool_wls, isa_bool_dic, isa_str_non, isa_str_bl, isa_str_int, isa_str_str, isa_str_tup, isa_str_lst, isa_str_wls, isa_str_dic, isa_list_non, isa_list_bl, isa_list_int, isa_list_str, isa_list_tup, isa_list_lst, isa_list_wls, isa_list_dic, isa_tuple_non, isa_tuple_bl, isa_tuple_int, isa_tuple_str, isa_tuple_tup, isa_tuple_lst, isa_tuple_wls, isa_tuple_dic, isa_list_tuple_non, isa_list_tuple_bl, isa_list_tuple_int, isa_list_tuple_str, isa_list_tuple_tup, isa_list_tuple_lst, isa_list_tuple_wls, isa_list_tuple_dic, isa_int_str_non, isa_int_str_bl, isa_int_str_int, isa_int_str_str, isa_int_str_tup, isa_int_str_lst, isa_int_str_wls, isa_int_str_dic, isa_str_int_non, isa_str_int_bl, isa_str_int_int, isa_str_int_str, isa_str_int_tup, isa_str_int_lst, isa_str_int_wls, isa_str_int_dic, isa_tuple_list_non, isa_tuple_list_bl, isa_tuple_list_int, isa_tuple_list_str, isa_tuple_list_tup, isa_tuple_list_lst, isa_tuple_list_wls, isa_tuple_list_dic, dIsN_bl, dNotN_bl, dIsN_int, dNotN_int, dIsN_str, dNotN_str, dIsN_tup, dNotN_tup, dIsN_lst, dNotN_lst, dIsN_wls, dNotN_wls, dIsN_dic, dNotN_dic, dIsN_non, dNotN_non, tru_bl, tru_non, tru_int, tru_lst, tru_wls, tru_tup, int_int, back_val', back_own', back_non]
    unfold m_is_number
    refine wo_fn ?_
    unfold b_is_number
    simp only [Wp_ret, Wp_no, Wp_bnd, Wp_ite, Raw.stay_val, Raw.stay_bor, Wp_m2, Wp_var, Wp_peek, Wp_move, Wp_frz, Raw.frz_own, Raw.frz_val, Raw.frz_lst, Wp_gI, Wp_gD, Wp_g1, Wp_g2I, Raw.dt_val, Raw.dt_own, Raw.dt_bor, Wp_isa, Wp_bool, Wp_tru, Wp_not, Wp_and, Wp_or, Wp_ofB, Wp_if, Wp_andV, Wp_orV, Wp_un, Wp_nil, Wp_cons, Raw.datas_nil, Raw.datas_cons, Raw.vals_nil, Raw.vals_cons, Wp_tup, Wp_lst, Wp_call, Wp_callO, Wp_set, Wp_app, Wp_pop, Wp_rev, Wp_range1, Wp_range2, Wp_err, Wp_erris, Ws_nx, Ws_bk, Ws_ct, Ws_retN, Ws_expr, Ws_ret, Ws_if, Ws_set, Ws_par, Ws_unp, Ws_raise, Ws_raise0, dEq_ii, dNe_ii, dLen_lst, dLen_wls, dLen_tup, ix_lst, ix_wls, ix_tup', enF, gSet, gTupD, gsCons, gsNil, ↓reduceIte, List.getElem?_cons_zero, List.getElem?_cons_succ, List.getElem?_nil, List.set_cons_zero, List.set_cons_succ, List.set_nil, List.length_cons, List.length_nil, List.replicate, List.cons_append, List.nil_append, List.append_nil, List.take, Option.map_some, decide_eq_true_eq, decide_eq_false_iff_not, Bool.not_eq_true', Bool.not_eq_false', Bool.not_not, Bool.not_true, Bool.not_false, true_and, and_true, false_and, and_false, imp_self, implies_true, not_false_eq_true, not_true_eq_false, true_implies, false_implies, Bool.true_eq_false, Bool.false_eq_true, forall_const, Nat.reduceAdd, Nat.reduceSub, Nat.reduceEqDiff, Nat.reduceLeDiff, mulOk_iff, divOk_iff, modOk_iff, powOk_iff, small_iff, isa_int_non, isa_int_bl, isa_int_int, isa_int_str, isa_int_tup, isa_int_lst, isa_int_wls, isa_int_dic, isa_bool_non, isa_bool_bl, isa_bool_int, isa_bool_str, isa_bool_tup, isa_bool_lst, isa_bool_wls, isa_bool_dic, isa_str_non, isa_str_bl, isa_str_int, isa_str_str, isa_str_tup, isa_str_lst, isa_str_wls, isa_str_dic, isa_list_non, isa_list_bl, isa_list_int, isa_list_str, isa_list_tup, isa_list_lst, isa_list_wls, isa_list_dic, isa_tuple_non, isa_tuple_bl, isa_tuple_int, isa_tuple_str, isa_tuple_tup, isa_tuple_lst, isa_tuple_wls, isa_tuple_dic, isa_list_tuple_non, isa_list_tuple_bl, isa_list_tuple_int, isa_list_tuple_str, isa_list_tuple_tup, isa_list_tuple_lst, isa_list_tuple_wls, isa_list_tuple_dic, isa_int_str_non, isa_int_str_bl, isa_int_str_int, isa_int_str_str, isa_int_str_tup, isa_int_str_lst, isa_int_str_wls, isa_int_str_dic, isa_str_int_non, isa_str_int_bl, isa_str_int_int, isa_str_int_str, isa_str_int_tup, isa_str_int_lst, isa_str_int_wls, isa_str_int_dic, isa_tuple_list_non, isa_tuple_list_bl, isa_tuple_list_int, isa_tuple_list_str, isa_tuple_list_tup, isa_tuple_list_lst, isa_tuple_list_wls, isa_tuple_list_dic, dIsN_bl, dNotN_bl, dIsN_int, dNotN_int, dIsN_str, dNotN_str, dIsN_tup, dNotN_tup, dIsN_lst, dNotN_lst, dIsN_wls, dNotN_wls, dIsN_dic, dNotN_dic, dIsN_non, dNotN_non, tru_bl, tru_non, tru_int, tru_lst, tru_wls, tru_tup, int_int, back_val', back_own', back_non, e]
    exact q _
  · simp only [Wp_ret, Wp_no, Wp_bnd, Wp_ite, Raw.stay_val, Raw.stay_bor, Wp_m2, Wp_var, Wp_peek, Wp_move, Wp_frz, Raw.frz_own, Raw.frz_val, Raw.frz_lst, Wp_gI, Wp_gD, Wp_g1, Wp_g2I, Raw.dt_val, Raw.dt_own, Raw.dt_bor, Wp_isa, Wp_bool, Wp_tru, Wp_not, Wp_and, Wp_or, Wp_ofB, Wp_if, Wp_andV, Wp_orV, Wp_un, Wp_nil, Wp_cons, Raw.datas_nil, Raw.datas_cons, Raw.vals_nil, Raw.vals_cons, Wp_tup, Wp_lst, Wp_call, Wp_callO, Wp_set, Wp_app, Wp_pop, Wp_rev, Wp_range1, Wp_range2, Wp_err, Wp_erris, Ws_nx, Ws_bk, Ws_ct, Ws_retN, Ws_expr, Ws_ret, Ws_if, Ws_set, Ws_par, Ws_unp, Ws_raise, Ws_raise0, dEq_ii, dNe_ii, dLen_lst, dLen_wls, dLen_tup, ix_lst, ix_wls, ix_tup', enF, gSet, gTupD, gsCons, gsNil, ↓reduceIte, List.getElem?_cons_zero, List.getElem?_cons_succ, List.getElem?_nil, List.set_cons_zero, List.set_cons_succ, List.set_nil, List.length_cons, List.length_nil, List.replicate, List.cons_append, List.nil_append, List.append_nil, List.take, Option.map_some, decide_eq_true_eq, decide_eq_false_iff_not, Bool.not_eq_true', Bool.not_eq_false', Bool.not_not, Bool.not_true, Bool.not_false, true_and, and_true, false_and, and_false, imp_self, implies_true, not_false_eq_true, not_true_eq_false, true_implies, false_implies, Bool.true_eq_false, Bool.false_eq_true, forall_const, Nat.reduceAdd, Nat.reduceSub, Nat.reduceEqDiff, Nat.reduceLeDiff, mulOk_iff, divOk_iff, modOk_iff, powOk_iff, small_iff, isa_int_non, isa_int_bl, isa_int_int, isa_int_str, isa_int_tup, isa_int_lst, isa_int_wls, isa_int_dic, isa_bool_non, isa_bool_bl, isa_bool_int, isa_bool_str, isa_bool_tup, isa_bool_lst, isa_bool_wls, isa_bool_dic, isa_str_non, isa_str_bl, isa_str_int, isa_str_str, isa_str_tup, isa_str_lst, isa_str_wls, isa_str_dic, isa_list_non, isa_list_bl, isa_list_int, isa_list_str, isa_list_tup, isa_list_lst, isa_list_wls, isa_list_dic, isa_tuple_non, isa_tuple_bl, isa_tuple_int, isa_tuple_str, isa_tuple_tup, isa_tuple_lst, isa_tuple_wls, isa_tuple_dic, isa_list_tuple_non, isa_list_tuple_bl, isa_list_tuple_int, isa_list_tuple_str, isa_list_tuple_tup, isa_list_tuple_lst, isa_list_tuple_wls, isa_list_tuple_dic, isa_int_str_non, isa_int_str_bl, isa_int_str_int, isa_int_str_str, isa_int_str_tup, isa_int_str_lst, isa_int_str_wls, isa_int_str_dic, isa_str_int_non, isa_str_int_bl, isa_str_int_int, isa_str_int_str, isa_str_int_tup, isa_str_int_lst, isa_str_int_wls, isa_str_int_dic, isa_tuple_list_non, isa_tuple_list_bl, isa_tuple_list_int, isa_tuple_list_str, isa_tuple_list_tup, isa_tuple_list_lst, isa_tuple_list_wls, isa_tuple_list_dic, dIsN_bl, dNotN_bl, dIsN_int, dNotN_int, dIsN_str, dNotN_str, dIsN_tup, dNotN_tup, dIsN_lst, dNotN_lst, dIsN_wls, dNotN_wls, dIsN_dic, dNotN_dic, dIsN_non, dNotN_non, tru_bl, tru_non, tru_int, tru_lst, tru_wls, tru_tup, int_int, back_val', back_own', back_non]
    unfold m_is_number
    refine wo_fn ?_
    unfold b_is_number
    simp only [Wp_ret, Wp_no, Wp_bnd, Wp_ite, Raw.stay_val, Raw.stay_bor, Wp_m2, Wp_var, Wp_peek, Wp_move, Wp_frz, Raw.frz_own, Raw.frz_val, Raw.frz_lst, Wp_gI, Wp_gD, Wp_g1, Wp_g2I, Raw.dt_val, Raw.dt_own, Raw.dt_bor, Wp_isa, Wp_bool, Wp_tru, Wp_not, Wp_and, Wp_or, Wp_ofB, Wp_if, Wp_andV, Wp_orV, Wp_un, Wp_nil, Wp_cons, Raw.datas_nil, Raw.datas_cons, Raw.vals_nil, Raw.vals_cons, Wp_tup, Wp_lst, Wp_call, Wp_callO, Wp_set, Wp_app, Wp_pop, Wp_rev, Wp_range1, Wp_range2, Wp_err, Wp_erris, Ws_nx, Ws_bk, Ws_ct, Ws_retN, Ws_expr, Ws_ret, Ws_if, Ws_set, Ws_par, Ws_unp, Ws_raise, Ws_raise0, dEq_ii, dNe_ii, dLen_lst, dLen_wls, dLen_tup, ix_lst, ix_wls, ix_tup', enF, gSet, gTupD, gsCons, gsNil, ↓reduceIte, List.getElem?_cons_zero, List.getElem?_cons_succ, List.getElem?_nil, List.set_cons_zero, List.set_cons_succ, List.set_nil, List.length_cons, List.length_nil, List.replicate, List.cons_append, List.nil_append, List.append_nil, List.take, Option.map_some, decide_eq_true_eq, decide_eq_false_iff_not, Bool.not_eq_true', Bool.not_eq_false', Bool.not_not, Bool.not_true, Bool.not_false, true_and, and_true, false_and, and_false, imp_self, implies_true, not_false_eq_true, not_true_eq_false, true_implies, false_implies, Bool.true_eq_false, Bool.false_eq_true, forall_const, Nat.reduceAdd, Nat.reduceSub, Nat.reduceEqDiff, Nat.reduceLeDiff, mulOk_iff, divOk_iff, modOk_iff, powOk_iff, small_iff, isa_int_non, isa_int_bl, isa_int_int, isa_int_str, isa_int_tup, isa_int_lst, isa_int_wls, isa_int_dic, isa_bool_non, isa_bool_bl, isa_bool_int, isa_bool_str, isa_bool_tup, isa_bool_lst, isa_bool_wls, isa_bool_dic, isa_str_non, isa_str_bl, isa_str_int, isa_str_str, isa_str_tup, isa_str_lst, isa_str_wls, isa_str_dic, isa_list_non, isa_list_bl, isa_list_int, isa_list_str, isa_list_tup, isa_list_lst, isa_list_wls, isa_list_dic, isa_tuple_non, isa_tuple_bl, isa_tuple_int, isa_tuple_str, isa_tuple_tup, isa_tuple_lst, isa_tuple_wls, isa_tuple_dic, isa_list_tuple_non, isa_list_tuple_bl, isa_list_tuple_int, isa_list_tuple_str, isa_list_tuple_tup, isa_list_tuple_lst, isa_list_tuple_wls, isa_list_tuple_dic, isa_int_str_non, isa_int_str_bl, isa_int_str_int, isa_int_str_str, isa_int_str_tup, isa_int_str_lst, isa_int_str_wls, isa_int_str_dic, isa_str_int_non, isa_str_int_bl, isa_str_int_int, isa_str_int_str, isa_str_int_tup, isa_str_int_lst, isa_str_int_wls, isa_str_int_dic, isa_tuple_list_non, isa_tuple_list_bl, isa_tuple_list_int, isa_tuple_list_str, isa_tuple_list_tup, isa_tuple_list_lst, isa_tuple_list_wls, isa_tuple_list_dic, dIsN_bl, dNotN_bl, dIsN_int, dNotN_int, dIsN_str, dNotN_str, dIsN_tup, dNotN_tup, dIsN_lst, dNotN_lst, dIsN_wls, dNotN_wls, dIsN_dic, dNotN_dic, dIsN_non, dNotN_non, tru_bl, tru_non, tru_int, tru_lst, tru_wls, tru_tup, int_int, back_val', back_own', back_non, e]
    exact q _
theorem w_fault0 {b d : Dt} {nm : Str} (h : (∃ i, b = .int i ∧ 1 ≤ i ∧ nm = "view" ∧ ((∃ i, d = .int i ∧ i < 0) ∨ d = .bl true ∨ d = .non)) ∨ (((∃ i, b = .int i ∧ i < 1) ∨ b = .bl true ∨ b = .non) ∧ nm = "base")) (q : ∀ ls, Q (.own (.lst [.str nm, .bl true])) ls) : Wo (m_law_fault [.val (.int 0), .val b, .val d]) Q E := by
  unfold m_law_fault
  refine wo_fn ?_
  unfold b_law_fault
  refine ws_seq fun K hK => ?_
  simp only [Wp_ret, Wp_no, Wp_bnd, Wp_ite, Raw.stay_val, Raw.stay_bor, Wp_m2, Wp_var, Wp_peek, Wp_move, Wp_frz, Raw.frz_own, Raw.frz_val, Raw.frz_lst, Wp_gI, Wp_gD, Wp_g1, Wp_g2I, Raw.dt_val, Raw.dt_own, Raw.dt_bor, Wp_isa, Wp_bool, Wp_tru, Wp_not, Wp_and, Wp_or, Wp_ofB, Wp_if, Wp_andV, Wp_orV, Wp_un, Wp_nil, Wp_cons, Raw.datas_nil, Raw.datas_cons, Raw.vals_nil, Raw.vals_cons, Wp_tup, Wp_lst, Wp_call, Wp_callO, Wp_set, Wp_app, Wp_pop, Wp_rev, Wp_range1, Wp_range2, Wp_err, Wp_erris, Ws_nx, Ws_bk, Ws_ct, Ws_retN, Ws_expr, Ws_ret, Ws_if, Ws_set, Ws_par, Ws_unp, Ws_raise, Ws_raise0, dEq_ii, dNe_ii, dLen_lst, dLen_wls, dLen_tup, ix_lst, ix_wls, ix_tup', enF, gSet, gTupD, gsCons, gsNil, ↓reduceIte, List.getElem?_cons_zero, List.getElem?_cons_succ, List.getElem?_nil, List.set_cons_zero, List.set_cons_succ, List.set_nil, List.length_cons, List.length_nil, List.replicate, List.cons_append, List.nil_append, List.append_nil, List.take, Option.map_some, decide_eq_true_eq, decide_eq_false_iff_not, Bool.not_eq_true', Bool.not_eq_false', Bool.not_not, Bool.not_true, Bool.not_false, true_and, and_true, false_and, and_false, imp_self, implies_true, not_false_eq_true, not_true_eq_false, true_implies, false_implies, Bool.true_eq_false, Bool.false_eq_true, forall_const, Nat.reduceAdd, Nat.reduceSub, Nat.reduceEqDiff, Nat.reduceLeDiff, mulOk_iff, divOk_iff, modOk_iff, powOk_iff, small_iff, isa_int_non, isa_int_bl, isa_int_int, isa_int_str, isa_int_tup, isa_int_lst, isa_int_wls, isa_int_dic, isa_bool_non, isa_bool_bl, isa_bool_int, isa_bool_str, isa_bool_tup, isa_bool_lst, isa_bool_wls, isa_bool_dic, isa_str_non, isa_str_bl, isa_str_int, isa_str_str, isa_str_tup, isa_str_lst, isa_str_wls, isa_str_dic, isa_list_non, isa_list_bl, isa_list_int, isa_list_str, isa_list_tup, isa_list_lst, isa_list_wls, isa_list_dic, isa_tuple_non, isa_tuple_bl, isa_tuple_int, isa_tuple_str, isa_tuple_tup, isa_tuple_lst, isa_tuple_wls, isa_tuple_dic, isa_list_tuple_non, isa_list_tuple_bl, isa_list_tuple_int, isa_list_tuple_str, isa_list_tuple_tup, isa_list_tuple_lst, isa_list_tuple_wls, isa_list_tuple_dic, isa_int_str_non, isa_int_str_bl, isa_int_str_int, isa_int_str_str, isa_int_str_tup, isa_int_str_lst, isa_int_str_wls, isa_int_str_dic, isa_str_int_non, isa_str_int_bl, isa_str_int_int, isa_str_int_str, isa_str_int_tup, isa_str_int_lst, isa_str_int_wls, isa_str_int_dic, isa_tuple_list_non, isa_tuple_list_bl, isa_tuple_list_int, isa_tuple_list_str, isa_tuple_list_tup, isa_tuple_list_lst, isa_tuple_list_wls, isa_tuple_list_dic, dIsN_bl, dNotN_bl, dIsN_int, dNotN_int, dIsN_str, dNotN_str, dIsN_tup, dNotN_tup, dIsN_lst, dNotN_lst, dIsN_wls, dNotN_wls, dIsN_dic, dNotN_dic, dIsN_non, dNotN_non, tru_bl, tru_non, tru_int, tru_lst, tru_wls, tru_tup, int_int, back_val', back_own', back_non]
  refine hK _ ?_
  refine ws_seq fun K2 hK2 => ?_
  refine ws_try fun X hX => ?_
  have fin : ∀ ρ, ρ = [.val (.int 0), .val b, .val d, .val .non, .non] → X ⟨"BadNumber", [("name", .str nm)]⟩ ρ := by
    rintro ρ rfl
    refine hX _ _ ?_
    show Ws _ _ _
    simp only [Wp_ret, Wp_no, Wp_bnd, Wp_ite, Raw.stay_val, Raw.stay_bor, Wp_m2, Wp_var, Wp_peek, Wp_move, Wp_frz, Raw.frz_own, Raw.frz_val, Raw.frz_lst, Wp_gI, Wp_gD, Wp_g1, Wp_g2I, Raw.dt_val, Raw.dt_own, Raw.dt_bor, Wp_isa, Wp_bool, Wp_tru, Wp_not, Wp_and, Wp_or, Wp_ofB, Wp_if, Wp_andV, Wp_orV, Wp_un, Wp_nil, Wp_cons, Raw.datas_nil, Raw.datas_cons, Raw.vals_nil, Raw.vals_cons, Wp_tup, Wp_lst, Wp_call, Wp_callO, Wp_set, Wp_app, Wp_pop, Wp_rev, Wp_range1, Wp_range2, Wp_err, Wp_erris, Ws_nx, Ws_bk, Ws_ct, Ws_retN, Ws_expr, Ws_ret, Ws_if, Ws_set, Ws_par, Ws_unp, Ws_raise, Ws_raise0, dEq_ii, dNe_ii, dLen_lst, dLen_wls, dLen_tup, ix_lst, ix_wls, ix_tup', enF, gSet, gTupD, gsCons, gsNil, ↓reduceIte, List.getElem?_cons_zero, List.getElem?_cons_succ, List.getElem?_nil, List.set_cons_zero, List.set_cons_succ, List.set_nil, List.length_cons, List.length_nil, List.replicate, List.cons_append, List.nil_append, List.append_nil, List.take, Option.map_some, decide_eq_true_eq, decide_eq_false_iff_not, Bool.not_eq_true', Bool.not_eq_false', Bool.not_not, Bool.not_true, Bool.not_false, true_and, and_true, false_and, and_false, imp_self, implies_true, not_false_eq_true, not_true_eq_false, true_implies, false_implies, Bool.true_eq_false, Bool.false_eq_true, forall_const, Nat.reduceAdd, Nat.reduceSub, Nat.reduceEqDiff, Nat.reduceLeDiff, mulOk_iff, divOk_iff, modOk_iff, powOk_iff, small_iff, isa_int_non, isa_int_bl, isa_int_int, isa_int_str, isa_int_tup, isa_int_lst, isa_int_wls, isa_int_dic, isa_bool_non, isa_bool_bl, isa_bool_int, isa_bool_str, isa_bool_tup, isa_bool_lst, isa_bool_wls, isa_bool_dic, isa_str_non, isa_str_bl, isa_str_int, isa_str_str, isa_str_tup, isa_str_lst, isa_str_wls, isa_str_dic, isa_list_non, isa_list_bl, isa_list_int, isa_list_str, isa_list_tup, isa_list_lst, isa_list_wls, isa_list_dic, isa_tuple_non, isa_tuple_bl, isa_tuple_int, isa_tuple_str, isa_tuple_tup, isa_tuple_lst, isa_tuple_wls, isa_tuple_dic, isa_list_tuple_non, isa_list_tuple_bl, isa_list_tuple_int, isa_list_tuple_str, isa_list_tuple_tup, isa_list_tuple_lst, isa_list_tuple_wls, isa_list_tuple_dic, isa_int_str_non, isa_int_str_bl, isa_int_str_int, isa_int_str_str, isa_int_str_tup, isa_int_str_lst, isa_int_str_wls, isa_int_str_dic, isa_str_int_non, isa_str_int_bl, isa_str_int_int, isa_str_int_str, isa_str_int_tup, isa_str_int_lst, isa_str_int_wls, isa_str_int_dic, isa_tuple_list_non, isa_tuple_list_bl, isa_tuple_list_int, isa_tuple_list_str, isa_tuple_list_tup, isa_tuple_list_lst, isa_tuple_list_wls, isa_tuple_list_dic, dIsN_bl, dNotN_bl, dIsN_int, dNotN_int, dIsN_str, dNotN_str, dIsN_tup, dNotN_tup, dIsN_lst, dNotN_lst, dIsN_wls, dNotN_wls, dIsN_dic, dNotN_dic, dIsN_non, dNotN_non, tru_bl, tru_non, tru_int, tru_lst, tru_wls, tru_tup, int_int, back_val', back_own', back_non, En.suite]
    refine ⟨rfl, ?_⟩
    show K2 _
    refine hK2 _ ?_
    simp only [Wp_ret, Wp_no, Wp_bnd, Wp_ite, Raw.stay_val, Raw.stay_bor, Wp_m2, Wp_var, Wp_peek, Wp_move, Wp_frz, Raw.frz_own, Raw.frz_val, Raw.frz_lst, Wp_gI, Wp_gD, Wp_g1, Wp_g2I, Raw.dt_val, Raw.dt_own, Raw.dt_bor, Wp_isa, Wp_bool, Wp_tru, Wp_not, Wp_and, Wp_or, Wp_ofB, Wp_if, Wp_andV, Wp_orV, Wp_un, Wp_nil, Wp_cons, Raw.datas_nil, Raw.datas_cons, Raw.vals_nil, Raw.vals_cons, Wp_tup, Wp_lst, Wp_call, Wp_callO, Wp_set, Wp_app, Wp_pop, Wp_rev, Wp_range1, Wp_range2, Wp_err, Wp_erris, Ws_nx, Ws_bk, Ws_ct, Ws_retN, Ws_expr, Ws_ret, Ws_if, Ws_set, Ws_par, Ws_unp, Ws_raise, Ws_raise0, dEq_ii, dNe_ii, dLen_lst, dLen_wls, dLen_tup, ix_lst, ix_wls, ix_tup', enF, gSet, gTupD, gsCons, gsNil, ↓reduceIte, List.getElem?_cons_zero, List.getElem?_cons_succ, List.getElem?_nil, List.set_cons_zero, List.set_cons_succ, List.set_nil, List.length_cons, List.length_nil, List.replicate, List.cons_append, List.nil_append, List.append_nil, List.take, Option.map_some, decide_eq_true_eq, decide_eq_false_iff_not, Bool.not_eq_true', Bool.not_eq_false', Bool.not_not, Bool.not_true, Bool.not_false, true_and, and_true, false_and, and_false, imp_self, implies_true, not_false_eq_true, not_true_eq_false, true_implies, false_implies, Bool.true_eq_false, Bool.false_eq_true, forall_const, Nat.reduceAdd, Nat.reduceSub, Nat.reduceEqDiff, Nat.reduceLeDiff, mulOk_iff, divOk_iff, modOk_iff, powOk_iff, small_iff, isa_int_non, isa_int_bl, isa_int_int, isa_int_str, isa_int_tup, isa_int_lst, isa_int_wls, isa_int_dic, isa_bool_non, isa_bool_bl, isa_bool_int, isa_bool_str, isa_bool_tup, isa_bool_lst, isa_bool_wls, isa_bool_dic, isa_str_non, isa_str_bl, isa_str_int, isa_str_str, isa_str_tup, isa_str_lst, isa_str_wls, isa_str_dic, isa_list_non, isa_list_bl, isa_list_int, isa_list_str, isa_list_tup, isa_list_lst, isa_list_wls, isa_list_dic, isa_tuple_non, isa_tuple_bl, isa_tuple_int, isa_tuple_str, isa_tuple_tup, isa_tuple_lst, isa_tuple_wls, isa_tuple_dic, isa_list_tuple_non, isa_list_tuple_bl, isa_list_tuple_int, isa_list_tuple_str, isa_list_tuple_tup, isa_list_tuple_lst, isa_list_tuple_wls, isa_list_tuple_dic, isa_int_str_non, isa_int_str_bl, isa_int_str_int, isa_int_str_str, isa_int_str_tup, isa_int_str_lst, isa_int_str_wls, isa_int_str_dic, isa_str_int_non, isa_str_int_bl, isa_str_int_int, isa_str_int_str, isa_str_int_tup, isa_str_int_lst, isa_str_int_wls, isa_str_int_dic, isa_tuple_list_non, isa_tuple_list_bl, isa_tuple_list_int, isa_tuple_list_str, isa_tuple_list_tup, isa_tuple_list_lst, isa_tuple_list_wls, isa_tuple_list_dic, dIsN_bl, dNotN_bl, dIsN_int, dNotN_int, dIsN_str, dNotN_str, dIsN_tup, dNotN_tup, dIsN_lst, dNotN_lst, dIsN_wls, dNotN_wls, dIsN_dic, dNotN_dic, dIsN_non, dNotN_non, tru_bl, tru_non, tru_int, tru_lst, tru_wls, tru_tup, int_int, back_val', back_own', back_non]
    exact q _
  simp only [Wp_ret, Wp_no, Wp_bnd, Wp_ite, Raw.stay_val, Raw.stay_bor, Wp_m2, Wp_var, Wp_peek, Wp_move, Wp_frz, Raw.frz_own, Raw.frz_val, Raw.frz_lst, Wp_gI, Wp_gD, Wp_g1, Wp_g2I, Raw.dt_val, Raw.dt_own, Raw.dt_bor, Wp_isa, Wp_bool, Wp_tru, Wp_not, Wp_and, Wp_or, Wp_ofB, Wp_if, Wp_andV, Wp_orV, Wp_un, Wp_nil, Wp_cons, Raw.datas_nil, Raw.datas_cons, Raw.vals_nil, Raw.vals_cons, Wp_tup, Wp_lst, Wp_call, Wp_callO, Wp_set, Wp_app, Wp_pop, Wp_rev, Wp_range1, Wp_range2, Wp_err, Wp_erris, Ws_nx, Ws_bk, Ws_ct, Ws_retN, Ws_expr, Ws_ret, Ws_if, Ws_set, Ws_par, Ws_unp, Ws_raise, Ws_raise0, dEq_ii, dNe_ii, dLen_lst, dLen_wls, dLen_tup, ix_lst, ix_wls, ix_tup', enF, gSet, gTupD, gsCons, gsNil, ↓reduceIte, List.getElem?_cons_zero, List.getElem?_cons_succ, List.getElem?_nil, List.set_cons_zero, List.set_cons_succ, List.set_nil, List.length_cons, List.length_nil, List.replicate, List.cons_append, List.nil_append, List.append_nil, List.take, Option.map_some, decide_eq_true_eq, decide_eq_false_iff_not, Bool.not_eq_true', Bool.not_eq_false', Bool.not_not, Bool.not_true, Bool.not_false, true_and, and_true, false_and, and_false, imp_self, implies_true, not_false_eq_true, not_true_eq_false, true_implies, false_implies, Bool.true_eq_false, Bool.false_eq_true, forall_const, Nat.reduceAdd, Nat.reduceSub, Nat.reduceEqDiff, Nat.reduceLeDiff, mulOk_iff, divOk_iff, modOk_iff, powOk_iff, small_iff, isa_int_non, isa_int_bl, isa_int_int, isa_int_str, isa_int_tup, isa_int_lst, isa_int_wls, isa_int_dic, isa_bool_non, isa_bool_bl, isa_bool_int, isa_bool_str, isa_bool_tup, isa_bool_lst, isa_bool_wls, isa_bool_dic, isa_str_non, isa_str_bl, isa_str_int, isa_str_str, isa_str_tup, isa_str_lst, isa_str_wls, isa_str_dic, isa_list_non, isa_list_bl, isa_list_int, isa_list_str, isa_list_tup, isa_list_lst, isa_list_wls, isa_list_dic, isa_tuple_non, isa_tuple_bl, isa_tuple_int, isa_tuple_str, isa_tuple_tup, isa_tuple_lst, isa_tuple_wls, isa_tuple_dic, isa_list_tuple_non, isa_list_tuple_bl, isa_list_tuple_int, isa_list_tuple_str, isa_list_tuple_tup, isa_list_tuple_lst, isa_list_tuple_wls, isa_list_tuple_dic, isa_int_str_non, isa_int_str_bl, isa_int_str_int, isa_int_str_str, isa_int_str_tup, isa_int_str_lst, isa_int_str_wls, isa_int_str_dic, isa_str_int_non, isa_str_int_bl, isa_str_int_int, isa_str_int_str, isa_str_int_tup, isa_str_int_lst, isa_str_int_wls, isa_str_int_dic, isa_tuple_list_non, isa_tuple_list_bl, isa_tuple_list_int, isa_tuple_list_str, isa_tuple_list_tup, isa_tuple_list_lst, isa_tuple_list_wls, isa_tuple_list_dic, dIsN_bl, dNotN_bl, dIsN_int, dNotN_int, dIsN_str, dNotN_str, dIsN_tup, dNotN_tup, dIsN_lst, dNotN_lst, dIsN_wls, dNotN_wls, dIsN_dic, dNotN_dic, dIsN_non, dNotN_non, tru_bl, tru_non, tru_int, tru_lst, tru_wls, tru_tup, int_int, back_val', back_own', back_non, decide_true]
  unfold m_view_start
  refine wo_fn ?_
  unfold b_view_start
  refine ws_seq fun K3 hK3 => ?_
  rcases h with ⟨i, rfl, hi, rfl, h⟩ | ⟨h, rfl⟩
  · simp only [Wp_ret, Wp_no, Wp_bnd, Wp_ite, Raw.stay_val, Raw.stay_bor, Wp_m2, Wp_var, Wp_peek, Wp_move, Wp_frz, Raw.frz_own, Raw.frz_val, Raw.frz_lst, Wp_gI, Wp_gD, Wp_g1, Wp_g2I, Raw.dt_val, Raw.dt_own, Raw.dt_bor, Wp_isa, Wp_bool, Wp_tru, Wp_not, Wp_and, Wp_or, Wp_ofB, Wp_if, Wp_andV, Wp_orV, Wp_un, Wp_nil, Wp_cons, Raw.datas_nil, Raw.datas_cons, Raw.vals_nil, Raw.vals_cons, Wp_tup, Wp_lst, Wp_call, Wp_callO, Wp_set, Wp_app, Wp_pop, Wp_rev, Wp_range1, Wp_range2, Wp_err, Wp_erris, Ws_nx, Ws_bk, Ws_ct, Ws_retN, Ws_expr, Ws_ret, Ws_if, Ws_set, Ws_par, Ws_unp, Ws_raise, Ws_raise0, dEq_ii, dNe_ii, dLen_lst, dLen_wls, dLen_tup, ix_lst, ix_wls, ix_tup', enF, gSet, gTupD, gsCons, gsNil, ↓reduceIte, List.getElem?_cons_zero, List.getElem?_cons_succ, List.getElem?_nil, List.set_cons_zero, List.set_cons_succ, List.set_nil, List.length_cons, List.length_nil, List.replicate, List.cons_append, List.nil_append, List.append_nil, List.take, Option.map_some, decide_eq_true_eq, decide_eq_false_iff_not, Bool.not_eq_true', Bool.not_eq_false', Bool.not_not, Bool.not_true, Bool.not_false, true_and, and_true, false_and, and_false, imp_self, implies_true, not_false_eq_true, not_true_eq_false, true_implies, false_implies, Bool.true_eq_false, Bool.false_eq_true, forall_const, Nat.reduceAdd, Nat.reduceSub, Nat.reduceEqDiff, Nat.reduceLeDiff, mulOk_iff, divOk_iff, modOk_iff, powOk_iff, small_iff, isa_int_non, isa_int_bl, isa_int_int, isa_int_str, isa_int_tup, isa_int_lst, isa_int_wls, isa_int_dic, isa_bool_non, isa_bool_bl, isa_bool_int, isa_bool_str, isa_bool_tup, isa_bool_lst, isa_bool_wls, isa_bool_dic, isa_str_non, isa_str_bl, isa_str_int, isa_str_str, isa_str_tup, isa_str_lst, isa_str_wls, isa_str_dic, isa_list_non, isa_list_bl, isa_list_int, isa_list_str, isa_list_tup, isa_list_lst, isa_list_wls, isa_list_dic, isa_tuple_non, isa_tuple_bl, isa_tuple_int, isa_tuple_str, isa_tuple_tup, isa_tuple_lst, isa_tuple_wls, isa_tuple_dic, isa_list_tuple_non, isa_list_tuple_bl, isa_list_tuple_int, isa_list_tuple_str, isa_list_tuple_tup, isa_list_tuple_lst, isa_list_tuple_wls, isa_list_tuple_dic, isa_int_str_non, isa_int_str_bl, isa_int_str_int, isa_int_str_str, isa_int_str_tup, isa_int_str_lst, isa_int_str_wls, isa_int_str_dic, isa_str_int_non, isa_str_int_bl, isa_str_int_int, isa_str_int_str, isa_str_int_tup, isa_str_int_lst, isa_str_int_wls, isa_str_int_dic, isa_tuple_list_non, isa_tuple_list_bl, isa_tuple_list_int, isa_tuple_list_str, isa_tuple_list_tup, isa_tuple_list_lst, isa_tuple_list_wls, isa_tuple_list_dic, dIsN_bl, dNotN_bl, dIsN_int, dNotN_int, dIsN_str, dNotN_str, dIsN_tup, dNotN_tup, dIsN_lst, dNotN_lst, dIsN_wls, dNotN_wls, dIsN_dic, dNotN_dic, dIsN_non, dNotN_non, tru_bl, tru_non, tru_int, tru_lst, tru_wls, tru_tup, int_int, back_val', back_own', back_non]
    refine w_check hi fun _ => hK3 _ ?_
    refine ws_seq fun K4 hK4 => ?_
    simp only [Wp_ret, Wp_no, Wp_bnd, Wp_ite, Raw.stay_val, Raw.stay_bor, Wp_m2, Wp_var, Wp_peek, Wp_move, Wp_frz, Raw.frz_own, Raw.frz_val, Raw.frz_lst, Wp_gI, Wp_gD, Wp_g1, Wp_g2I, Raw.dt_val, Raw.dt_own, Raw.dt_bor, Wp_isa, Wp_bool, Wp_tru, Wp_not, Wp_and, Wp_or, Wp_ofB, Wp_if, Wp_andV, Wp_orV, Wp_un, Wp_nil, Wp_cons, Raw.datas_nil, Raw.datas_cons, Raw.vals_nil, Raw.vals_cons, Wp_tup, Wp_lst, Wp_call, Wp_callO, Wp_set, Wp_app, Wp_pop, Wp_rev, Wp_range1, Wp_range2, Wp_err, Wp_erris, Ws_nx, Ws_bk, Ws_ct, Ws_retN, Ws_expr, Ws_ret, Ws_if, Ws_set, Ws_par, Ws_unp, Ws_raise, Ws_raise0, dEq_ii, dNe_ii, dLen_lst, dLen_wls, dLen_tup, ix_lst, ix_wls, ix_tup', enF, gSet, gTupD, gsCons, gsNil, ↓reduceIte, List.getElem?_cons_zero, List.getElem?_cons_succ, List.getElem?_nil, List.set_cons_zero, List.set_cons_succ, List.set_nil, List.length_cons, List.length_nil, List.replicate, List.cons_append, List.nil_append, List.append_nil, List.take, Option.map_some, decide_eq_true_eq, decide_eq_false_iff_not, Bool.not_eq_true', Bool.not_eq_false', Bool.not_not, Bool.not_true, Bool.not_false, true_and, and_true, false_and, and_false, imp_self, implies_true, not_false_eq_true, not_true_eq_false, true_implies, false_implies, Bool.true_eq_false, Bool.false_eq_true, forall_const, Nat.reduceAdd, Nat.reduceSub, Nat.reduceEqDiff, Nat.reduceLeDiff, mulOk_iff, divOk_iff, modOk_iff, powOk_iff, small_iff, isa_int_non, isa_int_bl, isa_int_int, isa_int_str, isa_int_tup, isa_int_lst, isa_int_wls, isa_int_dic, isa_bool_non, isa_bool_bl, isa_bool_int, isa_bool_str, isa_bool_tup, isa_bool_lst, isa_bool_wls, isa_bool_dic, isa_str_non, isa_str_bl, isa_str_int, isa_str_str, isa_str_tup, isa_str_lst, isa_str_wls, isa_str_dic, isa_list_non, isa_list_bl, isa_list_int, isa_list_str, isa_list_tup, isa_list_lst, isa_list_wls, isa_list_dic, isa_tuple_non, isa_tuple_bl, isa_tuple_int, isa_tuple_str, isa_tuple_tup, isa_tuple_lst, isa_tuple_wls, isa_tuple_dic, isa_list_tuple_non, isa_list_tuple_bl, isa_list_tuple_int, isa_list_tuple_str, isa_list_tuple_tup, isa_list_tuple_lst, isa_list_tuple_wls, isa_list_tuple_dic, isa_int_str_non, isa_int_str_bl, isa_int_str_int, isa_int_str_str, isa_int_str_tup, isa_int_str_lst, isa_int_str_wls, isa_int_str_dic, isa_str_int_non, isa_str_int_bl, isa_str_int_int, isa_str_int_str, isa_str_int_tup, isa_str_int_lst, isa_str_int_wls, isa_str_int_dic, isa_tuple_list_non, isa_tuple_list_bl, isa_tuple_list_int, isa_tuple_list_str, isa_tuple_list_tup, isa_tuple_list_lst, isa_tuple_list_wls, isa_tuple_list_dic, dIsN_bl, dNotN_bl, dIsN_int, dNotN_int, dIsN_str, dNotN_str, dIsN_tup, dNotN_tup, dIsN_lst, dNotN_lst, dIsN_wls, dNotN_wls, dIsN_dic, dNotN_dic, dIsN_non, dNotN_non, tru_bl, tru_non, tru_int, tru_lst, tru_wls, tru_tup, int_int, back_val', back_own', back_non]
    exact w_check_bad h fun _ => fin _ rfl
  · simp only [Wp_ret, Wp_no, Wp_bnd, Wp_ite, Raw.stay_val, Raw.stay_bor, Wp_m2, Wp_var, Wp_peek, Wp_move, Wp_frz, Raw.frz_own, Raw.frz_val, Raw.frz_lst, Wp_gI, Wp_gD, Wp_g1, Wp_g2I, Raw.dt_val, Raw.dt_own, Raw.dt_bor, Wp_isa, Wp_bool, Wp_tru, Wp_not, Wp_and, Wp_or, Wp_ofB, Wp_if, Wp_andV, Wp_orV, Wp_un, Wp_nil, Wp_cons, Raw.datas_nil, Raw.datas_cons, Raw.vals_nil, Raw.vals_cons, Wp_tup, Wp_lst, Wp_call, Wp_callO, Wp_set, Wp_app, Wp_pop, Wp_rev, Wp_range1, Wp_range2, Wp_err, Wp_erris, Ws_nx, Ws_bk, Ws_ct, Ws_retN, Ws_expr, Ws_ret, Ws_if, Ws_set, Ws_par, Ws_unp, Ws_raise, Ws_raise0, dEq_ii, dNe_ii, dLen_lst, dLen_wls, dLen_tup, ix_lst, ix_wls, ix_tup', enF, gSet, gTupD, gsCons, gsNil, ↓reduceIte, List.getElem?_cons_zero, List.getElem?_cons_succ, List.getElem?_nil, List.set_cons_zero, List.set_cons_succ, List.set_nil, List.length_cons, List.length_nil, List.replicate, List.cons_append, List.nil_append, List.append_nil, List.take, Option.map_some, decide_eq_true_eq, decide_eq_false_iff_not, Bool.not_eq_true', Bool.not_eq_false', Bool.not_not, Bool.not_true, Bool.not_false, true_and, and_true, false_and, and_false, imp_self, implies_true, not_false_eq_true, not_true_eq_false, true_implies, false_implies, Bool.true_eq_false, Bool.false_eq_true, forall_const, Nat.reduceAdd, Nat.reduceSub, Nat.reduceEqDiff, Nat.reduceLeDiff, mulOk_iff, divOk_iff, modOk_iff, powOk_iff, small_iff, isa_int_non, isa_int_bl, isa_int_int, isa_int_str, isa_int_tup, isa_int_lst, isa_int_wls, isa_int_dic, isa_bool_non, isa_bool_bl, isa_bool_int, isa_bool_str, isa_bool_tup, isa_bool_lst, isa_bool_wls, isa_bool_dic, isa_str_non, isa_str_bl, isa_str_int, isa_str_str, isa_str_tup, isa_str_lst, isa_str_wls, isa_str_dic, isa_list_non, isa_list_bl, isa_list_int, isa_list_str, isa_list_tup, isa_list_lst, isa_list_wls, isa_list_dic, isa_tuple_non, isa_tuple_bl, isa_tuple_int, isa_tuple_str, isa_tuple_tup, isa_tuple_lst, isa_tuple_wls, isa_tuple_dic, isa_list_tuple_non, isa_list_tuple_bl, isa_list_tuple_int, isa_list_tuple_str, isa_list_tuple_tup, isa_list_tuple_lst, isa_list_tuple_wls, isa_list_tuple_dic, isa_int_str_non, isa_int_str_bl, isa_int_str_int, isa_int_str_str, isa_int_str_tup, isa_int_str_lst, isa_int_str_wls, isa_int_str_dic, isa_str_int_non, isa_str_int_bl, isa_str_int_int, isa_str_int_str, isa_str_int_tup, isa_str_int_lst, isa_str_int_wls, isa_str_int_dic, isa_tuple_list_non, isa_tuple_list_bl, isa_tuple_list_int, isa_tuple_list_str, isa_tuple_list_tup, isa_tuple_list_lst, isa_tuple_list_wls, isa_tuple_list_dic, dIsN_bl, dNotN_bl, dIsN_int, dNotN_int, dIsN_str, dNotN_str, dIsN_tup, dNotN_tup, dIsN_lst, dNotN_lst, dIsN_wls, dNotN_wls, dIsN_dic, dNotN_dic, dIsN_non, dNotN_non, tru_bl, tru_non, tru_int, tru_lst, tru_wls, tru_tup, int_int, back_val', back_own', back_non]
    exact w_check_bad h fun _ => fin _ rfl
theorem w_fault1 {b d : Dt} {nm : Str} (h : (∃ i, b = .int i ∧ 1 ≤ i ∧ nm = "clock" ∧ ((∃ i, d = .int i ∧ i < 0) ∨ d = .bl true ∨ d = .non)) ∨ (((∃ i, b = .int i ∧ i < 1) ∨ b = .bl true ∨ b = .non) ∧ nm = "base")) (q : ∀ ls, Q (.own (.lst [.str nm, .bl true])) ls) : Wo (m_law_fault [.val (.int 1), .val b, .val d]) Q E := by
  unfold m_law_fault
  refine wo_fn ?_
  unfold b_law_fault
  refine ws_seq fun K hK => ?_
  simp only [Wp_ret, Wp_no, Wp_bnd, Wp_ite, Raw.stay_val, Raw.stay_bor, Wp_m2, Wp_var, Wp_peek, Wp_move, Wp_frz, Raw.frz_own, Raw.frz_val, Raw.frz_lst, Wp_gI, Wp_gD, Wp_g1, Wp_g2I, Raw.dt_val, Raw.dt_own, Raw.dt_bor, Wp_isa, Wp_bool, Wp_tru, Wp_not, Wp_and, Wp_or, Wp_ofB, Wp_if, Wp_andV, Wp_orV, Wp_un, Wp_nil, Wp_cons, Raw.datas_nil, Raw.datas_cons, Raw.vals_nil, Raw.vals_cons, Wp_tup, Wp_lst, Wp_call, Wp_callO, Wp_set, Wp_app, Wp_pop, Wp_rev, Wp_range1, Wp_range2, Wp_err, Wp_erris, Ws_nx, Ws_bk, Ws_ct, Ws_retN, Ws_expr, Ws_ret, Ws_if, Ws_set, Ws_par, Ws_unp, Ws_raise, Ws_raise0, dEq_ii, dNe_ii, dLen_lst, dLen_wls, dLen_tup, ix_lst, ix_wls, ix_tup', enF, gSet, gTupD, gsCons, gsNil, ↓reduceIte, List.getElem?_cons_zero, List.getElem?_cons_succ, List.getElem?_nil, List.set_cons_zero, List.set_cons_succ, List.set_nil, List.length_cons, List.length_nil, List.replicate, List.cons_append, List.nil_append, List.append_nil, List.take, Option.map_some, decide_eq_true_eq, decide_eq_false_iff_not, Bool.not_eq_true', Bool.not_eq_false', Bool.not_not, Bool.not_true, Bool.not_false, true_and, and_true, false_and, and_false, imp_self, implies_true, not_false_eq_true, not_true_eq_false, true_implies, false_implies, Bool.true_eq_false, Bool.false_eq_true, forall_const, Nat.reduceAdd, Nat.reduceSub, Nat.reduceEqDiff, Nat.reduceLeDiff, mulOk_iff, divOk_iff, modOk_iff, powOk_iff, small_iff, isa_int_non, isa_int_bl, isa_int_int, isa_int_str, isa_int_tup, isa_int_lst, isa_int_wls, isa_int_dic, isa_bool_non, isa_bool_bl, isa_bool_int, isa_bool_str, isa_bool_tup, isa_bool_lst, isa_bool_wls, isa_bool_dic, isa_str_non, isa_str_bl, isa_str_int, isa_str_str, isa_str_tup, isa_str_lst, isa_str_wls, isa_str_dic, isa_list_non, isa_list_bl, isa_list_int, isa_list_str, isa_list_tup, isa_list_lst, isa_list_wls, isa_list_dic, isa_tuple_non, isa_tuple_bl, isa_tuple_int, isa_tuple_str, isa_tuple_tup, isa_tuple_lst, isa_tuple_wls, isa_tuple_dic, isa_list_tuple_non, isa_list_tuple_bl, isa_list_tuple_int, isa_list_tuple_str, isa_list_tuple_tup, isa_list_tuple_lst, isa_list_tuple_wls, isa_list_tuple_dic, isa_int_str_non, isa_int_str_bl, isa_int_str_int, isa_int_str_str, isa_int_str_tup, isa_int_str_lst, isa_int_str_wls, isa_int_str_dic, isa_str_int_non, isa_str_int_bl, isa_str_int_int, isa_str_int_str, isa_str_int_tup, isa_str_int_lst, isa_str_int_wls, isa_str_int_dic, isa_tuple_list_non, isa_tuple_list_bl, isa_tuple_list_int, isa_tuple_list_str, isa_tuple_list_tup, isa_tuple_list_lst, isa_tuple_list_wls, isa_tuple_list_dic, dIsN_bl, dNotN_bl, dIsN_int, dNotN_int, dIsN_str, dNotN_str, dIsN_tup, dNotN_tup, dIsN_lst, dNotN_lst, dIsN_wls, dNotN_wls, dIsN_dic, dNotN_dic, dIsN_non, dNotN_non, tru_bl, tru_non, tru_int, tru_lst, tru_wls, tru_tup, int_int, back_val', back_own', back_non]
  refine hK _ ?_
  refine ws_seq fun K2 hK2 => ?_
  refine ws_try fun X hX => ?_
  have fin : ∀ ρ, ρ = [.val (.int 1), .val b, .val d, .val .non, .non] → X ⟨"BadNumber", [("name", .str nm)]⟩ ρ := by
    rintro ρ rfl
    refine hX _ _ ?_
    show Ws _ _ _
    simp only [Wp_ret, Wp_no, Wp_bnd, Wp_ite, Raw.stay_val, Raw.stay_bor, Wp_m2, Wp_var, Wp_peek, Wp_move, Wp_frz, Raw.frz_own, Raw.frz_val, Raw.frz_lst, Wp_gI, Wp_gD, Wp_g1, Wp_g2I, Raw.dt_val, Raw.dt_own, Raw.dt_bor, Wp_isa, Wp_bool, Wp_tru, Wp_not, Wp_and, Wp_or, Wp_ofB, Wp_if, Wp_andV, Wp_orV, Wp_un, Wp_nil, Wp_cons, Raw.datas_nil, Raw.datas_cons, Raw.vals_nil, Raw.vals_cons, Wp_tup, Wp_lst, Wp_call, Wp_callO, Wp_set, Wp_app, Wp_pop, Wp_rev, Wp_range1, Wp_range2, Wp_err, Wp_erris, Ws_nx, Ws_bk, Ws_ct, Ws_retN, Ws_expr, Ws_ret, Ws_if, Ws_set, Ws_par, Ws_unp, Ws_raise, Ws_raise0, dEq_ii, dNe_ii, dLen_lst, dLen_wls, dLen_tup, ix_lst, ix_wls, ix_tup', enF, gSet, gTupD, gsCons, gsNil, ↓reduceIte, List.getElem?_cons_zero, List.getElem?_cons_succ, List.getElem?_nil, List.set_cons_zero, List.set_cons_succ, List.set_nil, List.length_cons, List.length_nil, List.replicate, List.cons_append, List.nil_append, List.append_nil, List.take, Option.map_some, decide_eq_true_eq, decide_eq_false_iff_not, Bool.not_eq_true', Bool.not_eq_false', Bool.not_not, Bool.not_true, Bool.not_false, true_and, and_true, false_and, and_false, imp_self, implies_true, not_false_eq_true, not_true_eq_false, true_implies, false_implies, Bool.true_eq_false, Bool.false_eq_true, forall_const, Nat.reduceAdd, Nat.reduceSub, Nat.reduceEqDiff, Nat.reduceLeDiff, mulOk_iff, divOk_iff, modOk_iff, powOk_iff, small_iff, isa_int_non, isa_int_bl, isa_int_int, isa_int_str, isa_int_tup, isa_int_lst, isa_int_wls, isa_int_dic, isa_bool_non, isa_bool_bl, isa_bool_int, isa_bool_str, isa_bool_tup, isa_bool_lst, isa_bool_wls, isa_bool_dic, isa_str_non, isa_str_bl, isa_str_int, isa_str_str, isa_str_tup, isa_str_lst, isa_str_wls, isa_str_dic, isa_list_non, isa_list_bl, isa_list_int, isa_list_str, isa_list_tup, isa_list_lst, isa_list_wls, isa_list_dic, isa_tuple_non, isa_tuple_bl, isa_tuple_int, isa_tuple_str, isa_tuple_tup, isa_tuple_lst, isa_tuple_wls, isa_tuple_dic, isa_list_tuple_non, isa_list_tuple_bl, isa_list_tuple_int, isa_list_tuple_str, isa_list_tuple_tup, isa_list_tuple_lst, isa_list_tuple_wls, isa_list_tuple_dic, isa_int_str_non, isa_int_str_bl, isa_int_str_int, isa_int_str_str, isa_int_str_tup, isa_int_str_lst, isa_int_str_wls, isa_int_str_dic, isa_str_int_non, isa_str_int_bl, isa_str_int_int, isa_str_int_str, isa_str_int_tup, isa_str_int_lst, isa_str_int_wls, isa_str_int_dic, isa_tuple_list_non, isa_tuple_list_bl, isa_tuple_list_int, isa_tuple_list_str, isa_tuple_list_tup, isa_tuple_list_lst, isa_tuple_list_wls, isa_tuple_list_dic, dIsN_bl, dNotN_bl, dIsN_int, dNotN_int, dIsN_str, dNotN_str, dIsN_tup, dNotN_tup, dIsN_lst, dNotN_lst, dIsN_wls, dNotN_wls, dIsN_dic, dNotN_dic, dIsN_non, dNotN_non, tru_bl, tru_non, tru_int, tru_lst, tru_wls, tru_tup, int_int, back_val', back_own', back_non, En.suite]
    refine ⟨rfl, ?_⟩
    show K2 _
    refine hK2 _ ?_
    simp only [Wp_ret, Wp_no, Wp_bnd, Wp_ite, Raw.stay_val, Raw.stay_bor, Wp_m2, Wp_var, Wp_peek, Wp_move, Wp_frz, Raw.frz_own, Raw.frz_val, Raw.frz_lst, Wp_gI, Wp_gD, Wp_g1, Wp_g2I, Raw.dt_val, Raw.dt_own, Raw.dt_bor, Wp_isa, Wp_bool, Wp_tru, Wp_not, Wp_and, Wp_or, Wp_ofB, Wp_if, Wp_andV, Wp_orV, Wp_un, Wp_nil, Wp_cons, Raw.datas_nil, Raw.datas_cons, Raw.vals_nil, Raw.vals_cons, Wp_tup, Wp_lst, Wp_call, Wp_callO, Wp_set, Wp_app, Wp_pop, Wp_rev, Wp_range1, Wp_range2, Wp_err, Wp_erris, Ws_nx, Ws_bk, Ws_ct, Ws_retN, Ws_expr, Ws_ret, Ws_if, Ws_set, Ws_par, Ws_unp, Ws_raise, Ws_raise0, dEq_ii, dNe_ii, dLen_lst, dLen_wls, dLen_tup, ix_lst, ix_wls, ix_tup', enF, gSet, gTupD, gsCons, gsNil, ↓reduceIte, List.getElem?_cons_zero, List.getElem?_cons_succ, List.getElem?_nil, List.set_cons_zero, List.set_cons_succ, List.set_nil, List.length_cons, List.length_nil, List.replicate, List.cons_append, List.nil_append, List.append_nil, List.take, Option.map_some, decide_eq_true_eq, decide_eq_false_iff_not, Bool.not_eq_true', Bool.not_eq_false', Bool.not_not, Bool.not_true, Bool.not_false, true_and, and_true, false_and, and_false, imp_self, implies_true, not_false_eq_true, not_true_eq_false, true_implies, false_implies, Bool.true_eq_false, Bool.false_eq_true, forall_const, Nat.reduceAdd, Nat.reduceSub, Nat.reduceEqDiff, Nat.reduceLeDiff, mulOk_iff, divOk_iff, modOk_iff, powOk_iff, small_iff, isa_int_non, isa_int_bl, isa_int_int, isa_int_str, isa_int_tup, isa_int_lst, isa_int_wls, isa_int_dic, isa_bool_non, isa_bool_bl, isa_bool_int, isa_bool_str, isa_bool_tup, isa_bool_lst, isa_bool_wls, isa_bool_dic, isa_str_non, isa_str_bl, isa_str_int, isa_str_str, isa_str_tup, isa_str_lst, isa_str_wls, isa_str_dic, isa_list_non, isa_list_bl, isa_list_int, isa_list_str, isa_list_tup, isa_list_lst, isa_list_wls, isa_list_dic, isa_tuple_non, isa_tuple_bl, isa_tuple_int, isa_tuple_str, isa_tuple_tup, isa_tuple_lst, isa_tuple_wls, isa_tuple_dic, isa_list_tuple_non, isa_list_tuple_bl, isa_list_tuple_int, isa_list_tuple_str, isa_list_tuple_tup, isa_list_tuple_lst, isa_list_tuple_wls, isa_list_tuple_dic, isa_int_str_non, isa_int_str_bl, isa_int_str_int, isa_int_str_str, isa_int_str_tup, isa_int_str_lst, isa_int_str_wls, isa_int_str_dic, isa_str_int_non, isa_str_int_bl, isa_str_int_int, isa_str_int_str, isa_str_int_tup, isa_str_int_lst, isa_str_int_wls, isa_str_int_dic, isa_tuple_list_non, isa_tuple_list_bl, isa_tuple_list_int, isa_tuple_list_str, isa_tuple_list_tup, isa_tuple_list_lst, isa_tuple_list_wls, isa_tuple_list_dic, dIsN_bl, dNotN_bl, dIsN_int, dNotN_int, dIsN_str, dNotN_str, dIsN_tup, dNotN_tup, dIsN_lst, dNotN_lst, dIsN_wls, dNotN_wls, dIsN_dic, dNotN_dic, dIsN_non, dNotN_non, tru_bl, tru_non, tru_int, tru_lst, tru_wls, tru_tup, int_int, back_val', back_own', back_non]
    exact q _
  simp only [Wp_ret, Wp_no, Wp_bnd, Wp_ite, Raw.stay_val, Raw.stay_bor, Wp_m2, Wp_var, Wp_peek, Wp_move, Wp_frz, Raw.frz_own, Raw.frz_val, Raw.frz_lst, Wp_gI, Wp_gD, Wp_g1, Wp_g2I, Raw.dt_val, Raw.dt_own, Raw.dt_bor, Wp_isa, Wp_bool, Wp_tru, Wp_not, Wp_and, Wp_or, Wp_ofB, Wp_if, Wp_andV, Wp_orV, Wp_un, Wp_nil, Wp_cons, Raw.datas_nil, Raw.datas_cons, Raw.vals_nil, Raw.vals_cons, Wp_tup, Wp_lst, Wp_call, Wp_callO, Wp_set, Wp_app, Wp_pop, Wp_rev, Wp_range1, Wp_range2, Wp_err, Wp_erris, Ws_nx, Ws_bk, Ws_ct, Ws_retN, Ws_expr, Ws_ret, Ws_if, Ws_set, Ws_par, Ws_unp, Ws_raise, Ws_raise0, dEq_ii, dNe_ii, dLen_lst, dLen_wls, dLen_tup, ix_lst, ix_wls, ix_tup', enF, gSet, gTupD, gsCons, gsNil, ↓reduceIte, List.getElem?_cons_zero, List.getElem?_cons_succ, List.getElem?_nil, List.set_cons_zero, List.set_cons_succ, List.set_nil, List.length_cons, List.length_nil, List.replicate, List.cons_append, List.nil_append, List.append_nil, List.take, Option.map_some, decide_eq_true_eq, decide_eq_false_iff_not, Bool.not_eq_true', Bool.not_eq_false', Bool.not_not, Bool.not_true, Bool.not_false, true_and, and_true, false_and, and_false, imp_self, implies_true, not_false_eq_true, not_true_eq_false, true_implies, false_implies, Bool.true_eq_false, Bool.false_eq_true, forall_const, Nat.reduceAdd, Nat.reduceSub, Nat.reduceEqDiff, Nat.reduceLeDiff, mulOk_iff, divOk_iff, modOk_iff, powOk_iff, small_iff, isa_int_non, isa_int_bl, isa_int_int, isa_int_str, isa_int_tup, isa_int_lst, isa_int_wls, isa_int_dic, isa_bool_non, isa_bool_bl, isa_bool_int, isa_bool_str, isa_bool_tup, isa_bool_lst, isa_bool_wls, isa_bool_dic, isa_str_non, isa_str_bl, isa_str_int, isa_str_str, isa_str_tup, isa_str_lst, isa_str_wls, isa_str_dic, isa_list_non, isa_list_bl, isa_list_int, isa_list_str, isa_list_tup, isa_list_lst, isa_list_wls, isa_list_dic, isa_tuple_non, isa_tuple_bl, isa_tuple_int, isa_tuple_str, isa_tuple_tup, isa_tuple_lst, isa_tuple_wls, isa_tuple_dic, isa_list_tuple_non, isa_list_tuple_bl, isa_list_tuple_int, isa_list_tuple_str, isa_list_tuple_tup, isa_list_tuple_lst, isa_list_tuple_wls, isa_list_tuple_dic, isa_int_str_non, isa_int_str_bl, isa_int_str_int, isa_int_str_str, isa_int_str_tup, isa_int_str_lst, isa_int_str_wls, isa_int_str_dic, isa_str_int_non, isa_str_int_bl, isa_str_int_int, isa_str_int_str, isa_str_int_tup, isa_str_int_lst, isa_str_int_wls, isa_str_int_dic, isa_tuple_list_non, isa_tuple_list_bl, isa_tuple_list_int, isa_tuple_list_str, isa_tuple_list_tup, isa_tuple_list_lst, isa_tuple_list_wls, isa_tuple_list_dic, dIsN_bl, dNotN_bl, dIsN_int, dNotN_int, dIsN_str, dNotN_str, dIsN_tup, dNotN_tup, dIsN_lst, dNotN_lst, dIsN_wls, dNotN_wls, dIsN_dic, dNotN_dic, dIsN_non, dNotN_non, tru_bl, tru_non, tru_int, tru_lst, tru_wls, tru_tup, int_int, back_val', back_own', back_non, show ((1 : Int) = 0) = False from propext ⟨by decide, False.elim⟩]
  unfold m_view_at
  refine wo_fn ?_
  unfold b_view_at
  refine ws_seq fun K3 hK3 => ?_
  rcases h with ⟨i, rfl, hi, rfl, h⟩ | ⟨h, rfl⟩
  · simp only [Wp_ret, Wp_no, Wp_bnd, Wp_ite, Raw.stay_val, Raw.stay_bor, Wp_m2, Wp_var, Wp_peek, Wp_move, Wp_frz, Raw.frz_own, Raw.frz_val, Raw.frz_lst, Wp_gI, Wp_gD, Wp_g1, Wp_g2I, Raw.dt_val, Raw.dt_own, Raw.dt_bor, Wp_isa, Wp_bool, Wp_tru, Wp_not, Wp_and, Wp_or, Wp_ofB, Wp_if, Wp_andV, Wp_orV, Wp_un, Wp_nil, Wp_cons, Raw.datas_nil, Raw.datas_cons, Raw.vals_nil, Raw.vals_cons, Wp_tup, Wp_lst, Wp_call, Wp_callO, Wp_set, Wp_app, Wp_pop, Wp_rev, Wp_range1, Wp_range2, Wp_err, Wp_erris, Ws_nx, Ws_bk, Ws_ct, Ws_retN, Ws_expr, Ws_ret, Ws_if, Ws_set, Ws_par, Ws_unp, Ws_raise, Ws_raise0, dEq_ii, dNe_ii, dLen_lst, dLen_wls, dLen_tup, ix_lst, ix_wls, ix_tup', enF, gSet, gTupD, gsCons, gsNil, ↓reduceIte, List.getElem?_cons_zero, List.getElem?_cons_succ, List.getElem?_nil, List.set_cons_zero, List.set_cons_succ, List.set_nil, List.length_cons, List.length_nil, List.replicate, List.cons_append, List.nil_append, List.append_nil, List.take, Option.map_some, decide_eq_true_eq, decide_eq_false_iff_not, Bool.not_eq_true', Bool.not_eq_false', Bool.not_not, Bool.not_true, Bool.not_false, true_and, and_true, false_and, and_false, imp_self, implies_true, not_false_eq_true, not_true_eq_false, true_implies, false_implies, Bool.true_eq_false, Bool.false_eq_true, forall_const, Nat.reduceAdd, Nat.reduceSub, Nat.reduceEqDiff, Nat.reduceLeDiff, mulOk_iff, divOk_iff, modOk_iff, powOk_iff, small_iff, isa_int_non, isa_int_bl, isa_int_int, isa_int_str, isa_int_tup, isa_int_lst, isa_int_wls, isa_int_dic, isa_bool_non, isa_bool_bl, isa_bool_int, isa_bool_str, isa_bool_tup, isa_bool_lst, isa_bool_wls, isa_bool_dic, isa_str_non, isa_str_bl, isa_str_int, isa_str_str, isa_str_tup, isa_str_lst, isa_str_wls, isa_str_dic, isa_list_non, isa_list_bl, isa_list_int, isa_list_str, isa_list_tup, isa_list_lst, isa_list_wls, isa_list_dic, isa_tuple_non, isa_tuple_bl, isa_tuple_int, isa_tuple_str, isa_tuple_tup, isa_tuple_lst, isa_tuple_wls, isa_tuple_dic, isa_list_tuple_non, isa_list_tuple_bl, isa_list_tuple_int, isa_list_tuple_str, isa_list_tuple_tup, isa_list_tuple_lst, isa_list_tuple_wls, isa_list_tuple_dic, isa_int_str_non, isa_int_str_bl, isa_int_str_int, isa_int_str_str, isa_int_str_tup, isa_int_str_lst, isa_int_str_wls, isa_int_str_dic, isa_str_int_non, isa_str_int_bl, isa_str_int_int, isa_str_int_str, isa_str_int_tup, isa_str_int_lst, isa_str_int_wls, isa_str_int_dic, isa_tuple_list_non, isa_tuple_list_bl, isa_tuple_list_int, isa_tuple_list_str, isa_tuple_list_tup, isa_tuple_list_lst, isa_tuple_list_wls, isa_tuple_list_dic, dIsN_bl, dNotN_bl, dIsN_int, dNotN_int, dIsN_str, dNotN_str, dIsN_tup, dNotN_tup, dIsN_lst, dNotN_lst, dIsN_wls, dNotN_wls, dIsN_dic, dNotN_dic, dIsN_non, dNotN_non, tru_bl, tru_non, tru_int, tru_lst, tru_wls, tru_tup, int_int, back_val', back_own', back_non]
    refine w_check hi fun _ => hK3 _ ?_
    refine ws_seq fun K4 hK4 => ?_
    simp only [Wp_ret, Wp_no, Wp_bnd, Wp_ite, Raw.stay_val, Raw.stay_bor, Wp_m2, Wp_var, Wp_peek, Wp_move, Wp_frz, Raw.frz_own, Raw.frz_val, Raw.frz_lst, Wp_gI, Wp_gD, Wp_g1, Wp_g2I, Raw.dt_val, Raw.dt_own, Raw.dt_bor, Wp_isa, Wp_bool, Wp_tru, Wp_not, Wp_and, Wp_or, Wp_ofB, Wp_if, Wp_andV, Wp_orV, Wp_un, Wp_nil, Wp_cons, Raw.datas_nil, Raw.datas_cons, Raw.vals_nil, Raw.vals_cons, Wp_tup, Wp_lst, Wp_call, Wp_callO, Wp_set, Wp_app, Wp_pop, Wp_rev, Wp_range1, Wp_range2, Wp_err, Wp_erris, Ws_nx, Ws_bk, Ws_ct, Ws_retN, Ws_expr, Ws_ret, Ws_if, Ws_set, Ws_par, Ws_unp, Ws_raise, Ws_raise0, dEq_ii, dNe_ii, dLen_lst, dLen_wls, dLen_tup, ix_lst, ix_wls, ix_tup', enF, gSet, gTupD, gsCons, gsNil, ↓reduceIte, List.getElem?_cons_zero, List.getElem?_cons_succ, List.getElem?_nil, List.set_cons_zero, List.set_cons_succ, List.set_nil, List.length_cons, List.length_nil, List.replicate, List.cons_append, List.nil_append, List.append_nil, List.take, Option.map_some, decide_eq_true_eq, decide_eq_false_iff_not, Bool.not_eq_true', Bool.not_eq_false', Bool.not_not, Bool.not_true, Bool.not_false, true_and, and_true, false_and, and_false, imp_self, implies_true, not_false_eq_true, not_true_eq_false, true_implies, false_implies, Bool.true_eq_false, Bool.false_eq_true, forall_const, Nat.reduceAdd, Nat.reduceSub, Nat.reduceEqDiff, Nat.reduceLeDiff, mulOk_iff, divOk_iff, modOk_iff, powOk_iff, small_iff, isa_int_non, isa_int_bl, isa_int_int, isa_int_str, isa_int_tup, isa_int_lst, isa_int_wls, isa_int_dic, isa_bool_non, isa_bool_bl, isa_bool_int, isa_bool_str, isa_bool_tup, isa_bool_lst, isa_bool_wls, isa_bool_dic, isa_str_non, isa_str_bl, isa_str_int, isa_str_str, isa_str_tup, isa_str_lst, isa_str_wls, isa_str_dic, isa_list_non, isa_list_bl, isa_list_int, isa_list_str, isa_list_tup, isa_list_lst, isa_list_wls, isa_list_dic, isa_tuple_non, isa_tuple_bl, isa_tuple_int, isa_tuple_str, isa_tuple_tup, isa_tuple_lst, isa_tuple_wls, isa_tuple_dic, isa_list_tuple_non, isa_list_tuple_bl, isa_list_tuple_int, isa_list_tuple_str, isa_list_tuple_tup, isa_list_tuple_lst, isa_list_tuple_wls, isa_list_tuple_dic, isa_int_str_non, isa_int_str_bl, isa_int_str_int, isa_int_str_str, isa_int_str_tup, isa_int_str_lst, isa_int_str_wls, isa_int_str_dic, isa_str_int_non, isa_str_int_bl, isa_str_int_int, isa_str_int_str, isa_str_int_tup, isa_str_int_lst, isa_str_int_wls, isa_str_int_dic, isa_tuple_list_non, isa_tuple_list_bl, isa_tuple_list_int, isa_tuple_list_str, isa_tuple_list_tup, isa_tuple_list_lst, isa_tuple_list_wls, isa_tuple_list_dic, dIsN_bl, dNotN_bl, dIsN_int, dNotN_int, dIsN_str, dNotN_str, dIsN_tup, dNotN_tup, dIsN_lst, dNotN_lst, dIsN_wls, dNotN_wls, dIsN_dic, dNotN_dic, dIsN_non, dNotN_non, tru_bl, tru_non, tru_int, tru_lst, tru_wls, tru_tup, int_int, back_val', back_own', back_non]
    exact w_check_bad h fun _ => fin _ rfl
  · simp only [Wp_ret, Wp_no, Wp_bnd, Wp_ite, Raw.stay_val, Raw.stay_bor, Wp_m2, Wp_var, Wp_peek, Wp_move, Wp_frz, Raw.frz_own, Raw.frz_val, Raw.frz_lst, Wp_gI, Wp_gD, Wp_g1, Wp_g2I, Raw.dt_val, Raw.dt_own, Raw.dt_bor, Wp_isa, Wp_bool, Wp_tru, Wp_not, Wp_and, Wp_or, Wp_ofB, Wp_if, Wp_andV, Wp_orV, Wp_un, Wp_nil, Wp_cons, Raw.datas_nil, Raw.datas_cons, Raw.vals_nil, Raw.vals_cons, Wp_tup, Wp_lst, Wp_call, Wp_callO, Wp_set, Wp_app, Wp_pop, Wp_rev, Wp_range1, Wp_range2, Wp_err, Wp_erris, Ws_nx, Ws_bk, Ws_ct, Ws_retN, Ws_expr, Ws_ret, Ws_if, Ws_set, Ws_par, Ws_unp, Ws_raise, Ws_raise0, dEq_ii, dNe_ii, dLen_lst, dLen_wls, dLen_tup, ix_lst, ix_wls, ix_tup', enF, gSet, gTupD, gsCons, gsNil, ↓reduceIte, List.getElem?_cons_zero, List.getElem?_cons_succ, List.getElem?_nil, List.set_cons_zero, List.set_cons_succ, List.set_nil, List.length_cons, List.length_nil, List.replicate, List.cons_append, List.nil_append, List.append_nil, List.take, Option.map_some, decide_eq_true_eq, decide_eq_false_iff_not, Bool.not_eq_true', Bool.not_eq_false', Bool.not_not, Bool.not_true, Bool.not_false, true_and, and_true, false_and, and_false, imp_self, implies_true, not_false_eq_true, not_true_eq_false, true_implies, false_implies, Bool.true_eq_false, Bool.false_eq_true, forall_const, Nat.reduceAdd, Nat.reduceSub, Nat.reduceEqDiff, Nat.reduceLeDiff, mulOk_iff, divOk_iff, modOk_iff, powOk_iff, small_iff, isa_int_non, isa_int_bl, isa_int_int, isa_int_str, isa_int_tup, isa_int_lst, isa_int_wls, isa_int_dic, isa_bool_non, isa_bool_bl, isa_bool_int, isa_bool_str, isa_bool_tup, isa_bool_lst, isa_bool_wls, isa_bool_dic, isa_str_non, isa_str_bl, isa_str_int, isa_str_str, isa_str_tup, isa_str_lst, isa_str_wls, isa_str_dic, isa_list_non, isa_list_bl, isa_list_int, isa_list_str, isa_list_tup, isa_list_lst, isa_list_wls, isa_list_dic, isa_tuple_non, isa_tuple_bl, isa_tuple_int, isa_tuple_str, isa_tuple_tup, isa_tuple_lst, isa_tuple_wls, isa_tuple_dic, isa_list_tuple_non, isa_list_tuple_bl, isa_list_tuple_int, isa_list_tuple_str, isa_list_tuple_tup, isa_list_tuple_lst, isa_list_tuple_wls, isa_list_tuple_dic, isa_int_str_non, isa_int_str_bl, isa_int_str_int, isa_int_str_str, isa_int_str_tup, isa_int_str_lst, isa_int_str_wls, isa_int_str_dic, isa_str_int_non, isa_str_int_bl, isa_str_int_int, isa_str_int_str, isa_str_int_tup, isa_str_int_lst, isa_str_int_wls, isa_str_int_dic, isa_tuple_list_non, isa_tuple_list_bl, isa_tuple_list_int, isa_tuple_list_str, isa_tuple_list_tup, isa_tuple_list_lst, isa_tuple_list_wls, isa_tuple_list_dic, dIsN_bl, dNotN_bl, dIsN_int, dNotN_int, dIsN_str, dNotN_str, dIsN_tup, dNotN_tup, dIsN_lst, dNotN_lst, dIsN_wls, dNotN_wls, dIsN_dic, dNotN_dic, dIsN_non, dNotN_non, tru_bl, tru_non, tru_int, tru_lst, tru_wls, tru_tup, int_int, back_val', back_own', back_non]
    exact w_check_bad h fun _ => fin _ rfl
theorem dNe_sb {nm : Str} : dNe (.lst [.str nm, .bl true]) (.lst [.str nm, .bl true]) = some (.bl false) := by
  have e : (Dt.lst [.str nm, .bl true]).cmp = true := rfl
  unfold dNe
  rw [e]
  show some (Dt.bl !(nm == nm && true)) = _
  simp
theorem w_fault {w b d : _} {nm : Str} (hw : (w = 0 ∧ nm = "view") ∨ (w = 1 ∧ nm = "clock")) (h : ∃ i, b = .int i ∧ 1 ≤ i) (hd : (∃ i, d = .int i ∧ i < 0) ∨ d = .bl true ∨ d = .non) (q : ∀ ls, Q (.own (.lst [.str nm, .bl true])) ls) : Wo (m_law_fault [.val (.int w), .val b, .val d]) Q E := by
  obtain ⟨i, rfl, hi⟩ := h
  rcases hw with ⟨rfl, rfl⟩ | ⟨rfl, rfl⟩
  · exact w_fault0 (.inl ⟨i, rfl, hi, rfl, hd⟩) q
  · exact w_fault1 (.inl ⟨i, rfl, hi, rfl, hd⟩) q
theorem w_faultB {w b d : _} (hw : w = 0 ∨ w = 1) (h : (∃ i, b = .int i ∧ i < 1) ∨ b = .bl true ∨ b = .non) (q : ∀ ls, Q (.own (.lst [.str "base", .bl true])) ls) : Wo (m_law_fault [.val (.int w), .val b, .val d]) Q E := by
  rcases hw with rfl | rfl
  · exact w_fault0 (.inr ⟨h, rfl⟩) q
  · exact w_fault1 (.inr ⟨h, rfl⟩) q
theorem w_refusals {bad : Dt} {b : Int} (hb : 1 ≤ b) (h : badV bad) (q : ∀ ls, Q (.val (.bl true)) ls) : Wo (m_law_refusals_right [.val bad, .val (.int b)]) Q E := by
  have h1 : (∃ i, bad = .int i ∧ i < 1) ∨ bad = .bl true ∨ bad = .non := by
    rcases h with h | h | h | h
    · exact .inl ⟨_, h, by decide⟩
    · exact .inl ⟨_, h, by decide⟩
    · exact .inr (.inl h)
    · exact .inr (.inr h)
  obtain ⟨z, worse, hz, hw, hwz⟩ : ∃ (z : Bool) (worse : Dt), dEq bad (.int 0) = some (.bl z) ∧ ((∃ i, worse = .int i ∧ i < 0) ∨ worse = .bl true ∨ worse = .non) ∧ worse = (if z = true then .int (-1) else bad) := by
    rcases h with rfl | rfl | rfl | rfl
    · exact ⟨true, _, rfl, .inl ⟨-1, rfl, by decide⟩, rfl⟩
    · exact ⟨false, _, rfl, .inl ⟨-1, rfl, by decide⟩, rfl⟩
    · exact ⟨false, _, rfl, .inr (.inl rfl), rfl⟩
    · exact ⟨false, _, rfl, .inr (.inr rfl), rfl⟩
  unfold m_law_refusals_right
  refine wo_fn ?_
  unfold b_law_refusals_right
  refine ws_seq fun K hK => ?_
  simp only [Wp_ret, Wp_no, Wp_bnd, Wp_ite, Raw.stay_val, Raw.stay_bor, Wp_m2, Wp_var, Wp_peek, Wp_move, Wp_frz, Raw.frz_own, Raw.frz_val, Raw.frz_lst, Wp_gI, Wp_gD, Wp_g1, Wp_g2I, Raw.dt_val, Raw.dt_own, Raw.dt_bor, Wp_isa, Wp_bool, Wp_tru, Wp_not, Wp_and, Wp_or, Wp_ofB, Wp_if, Wp_andV, Wp_orV, Wp_un, Wp_nil, Wp_cons, Raw.datas_nil, Raw.datas_cons, Raw.vals_nil, Raw.vals_cons, Wp_tup, Wp_lst, Wp_call, Wp_callO, Wp_set, Wp_app, Wp_pop, Wp_rev, Wp_range1, Wp_range2, Wp_err, Wp_erris, Ws_nx, Ws_bk, Ws_ct, Ws_retN, Ws_expr, Ws_ret, Ws_if, Ws_set, Ws_par, Ws_unp, Ws_raise, Ws_raise0, dEq_ii, dNe_ii, dLen_lst, dLen_wls, dLen_tup, ix_lst, ix_wls, ix_tup', enF, gSet, gTupD, gsCons, gsNil, ↓reduceIte, List.getElem?_cons_zero, List.getElem?_cons_succ, List.getElem?_nil, List.set_cons_zero, List.set_cons_succ, List.set_nil, List.length_cons, List.length_nil, List.replicate, List.cons_append, List.nil_append, List.append_nil, List.take, Option.map_some, decide_eq_true_eq, decide_eq_false_iff_not, Bool.not_eq_true', Bool.not_eq_false', Bool.not_not, Bool.not_true, Bool.not_false, true_and, and_true, false_and, and_false, imp_self, implies_true, not_false_eq_true, not_true_eq_false, true_implies, false_implies, Bool.true_eq_false, Bool.false_eq_true, forall_const, Nat.reduceAdd, Nat.reduceSub, Nat.reduceEqDiff, Nat.reduceLeDiff, mulOk_iff, divOk_iff, modOk_iff, powOk_iff, small_iff, isa_int_non, isa_int_bl, isa_int_int, isa_int_str, isa_int_tup, isa_int_lst, isa_int_wls, isa_int_dic, isa_bool_non, isa_bool_bl, isa_bool_int, isa_bool_str, isa_bool_tup, isa_bool_lst, isa_bool_wls, isa_bool_dic, isa_str_non, isa_str_bl, isa_str_int, isa_str_str, isa_str_tup, isa_str_lst, isa_str_wls, isa_str_dic, isa_list_non, isa_list_bl, isa_list_int, isa_list_str, isa_list_tup, isa_list_lst, isa_list_wls, isa_list_dic, isa_tuple_non, isa_tuple_bl, isa_tuple_int, isa_tuple_str, isa_tuple_tup, isa_tuple_lst, isa_tuple_wls, isa_tuple_dic, isa_list_tuple_non, isa_list_tuple_bl, isa_list_tuple_int, isa_list_tuple_str, isa_list_tuple_tup, isa_list_tuple_lst, isa_list_tuple_wls, isa_list_tuple_dic, isa_int_str_non, isa_int_str_bl, isa_int_str_int, isa_int_str_str, isa_int_str_tup, isa_int_str_lst, isa_int_str_wls, isa_int_str_dic, isa_str_int_non, isa_str_int_bl, isa_str_int_int, isa_str_int_str, isa_str_int_tup, isa_str_int_lst, isa_str_int_wls, isa_str_int_dic, isa_tuple_list_non, isa_tuple_list_bl, isa_tuple_list_int, isa_tuple_list_str, isa_tuple_list_tup, isa_tuple_list_lst, isa_tuple_list_wls, isa_tuple_list_dic, dIsN_bl, dNotN_bl, dIsN_int, dNotN_int, dIsN_str, dNotN_str, dIsN_tup, dNotN_tup, dIsN_lst, dNotN_lst, dIsN_wls, dNotN_wls, dIsN_dic, dNotN_dic, dIsN_non, dNotN_non, tru_bl, tru_non, tru_int, tru_lst, tru_wls, tru_tup, int_int, back_val', back_own', back_non]
  refine hK _ ?_
  refine ws_seq fun K2 hK2 => ?_
  refine ws_for ?_
  simp only [Wp_ret, Wp_no, Wp_bnd, Wp_ite, Raw.stay_val, Raw.stay_bor, Wp_m2, Wp_var, Wp_peek, Wp_move, Wp_frz, Raw.frz_own, Raw.frz_val, Raw.frz_lst, Wp_gI, Wp_gD, Wp_g1, Wp_g2I, Raw.dt_val, Raw.dt_own, Raw.dt_bor, Wp_isa, Wp_bool, Wp_tru, Wp_not, Wp_and, Wp_or, Wp_ofB, Wp_if, Wp_andV, Wp_orV, Wp_un, Wp_nil, Wp_cons, Raw.datas_nil, Raw.datas_cons, Raw.vals_nil, Raw.vals_cons, Wp_tup, Wp_lst, Wp_call, Wp_callO, Wp_set, Wp_app, Wp_pop, Wp_rev, Wp_range1, Wp_range2, Wp_err, Wp_erris, Ws_nx, Ws_bk, Ws_ct, Ws_retN, Ws_expr, Ws_ret, Ws_if, Ws_set, Ws_par, Ws_unp, Ws_raise, Ws_raise0, dEq_ii, dNe_ii, dLen_lst, dLen_wls, dLen_tup, ix_lst, ix_wls, ix_tup', enF, gSet, gTupD, gsCons, gsNil, ↓reduceIte, List.getElem?_cons_zero, List.getElem?_cons_succ, List.getElem?_nil, List.set_cons_zero, List.set_cons_succ, List.set_nil, List.length_cons, List.length_nil, List.replicate, List.cons_append, List.nil_append, List.append_nil, List.take, Option.map_some, decide_eq_true_eq, decide_eq_false_iff_not, Bool.not_eq_true', Bool.not_eq_false', Bool.not_not, Bool.not_true, Bool.not_false, true_and, and_true, false_and, and_false, imp_self, implies_true, not_false_eq_true, not_true_eq_false, true_implies, false_implies, Bool.true_eq_false, Bool.false_eq_true, forall_const, Nat.reduceAdd, Nat.reduceSub, Nat.reduceEqDiff, Nat.reduceLeDiff, mulOk_iff, divOk_iff, modOk_iff, powOk_iff, small_iff, isa_int_non, isa_int_bl, isa_int_int, isa_int_str, isa_int_tup, isa_int_lst, isa_int_wls, isa_int_dic, isa_bool_non, isa_bool_bl, isa_bool_int, isa_bool_str, isa_bool_tup, isa_bool_lst, isa_bool_wls, isa_bool_dic, isa_str_non, isa_str_bl, isa_str_int, isa_str_str, isa_str_tup, isa_str_lst, isa_str_wls, isa_str_dic, isa_list_non, isa_list_bl, isa_list_int, isa_list_str, isa_list_tup, isa_list_lst, isa_list_wls, isa_list_dic, isa_tuple_non, isa_tuple_bl, isa_tuple_int, isa_tuple_str, isa_tuple_tup, isa_tuple_lst, isa_tuple_wls, isa_tuple_dic, isa_list_tuple_non, isa_list_tuple_bl, isa_list_tuple_int, isa_list_tuple_str, isa_list_tuple_tup, isa_list_tuple_lst, isa_list_tuple_wls, isa_list_tuple_dic, isa_int_str_non, isa_int_str_bl, isa_int_str_int, isa_int_str_str, isa_int_str_tup, isa_int_str_lst, isa_int_str_wls, isa_int_str_dic, isa_str_int_non, isa_str_int_bl, isa_str_int_int, isa_str_int_str, isa_str_int_tup, isa_str_int_lst, isa_str_int_wls, isa_str_int_dic, isa_tuple_list_non, isa_tuple_list_bl, isa_tuple_list_int, isa_tuple_list_str, isa_tuple_list_tup, isa_tuple_list_lst, isa_tuple_list_wls, isa_tuple_list_dic, dIsN_bl, dNotN_bl, dIsN_int, dNotN_int, dIsN_str, dNotN_str, dIsN_tup, dNotN_tup, dIsN_lst, dNotN_lst, dIsN_wls, dNotN_wls, dIsN_dic, dNotN_dic, dIsN_non, dNotN_non, tru_bl, tru_non, tru_int, tru_lst, tru_wls, tru_tup, int_int, back_val', back_own', back_non]
  refine ⟨by decide, ?_⟩
  refine ws_forR (fun i ρ => ∃ x y, ρ = [.val bad, .val (.int b), .own (.lst [.str "view", .str "clock"]), x, y]) ⟨_, _, rfl⟩ (by decide) ?_ ?_
  · rintro i ρ g0 g1 ⟨x, y, rfl⟩
    simp only [Wp_ret, Wp_no, Wp_bnd, Wp_ite, Raw.stay_val, Raw.stay_bor, Wp_m2, Wp_var, Wp_peek, Wp_move, Wp_frz, Raw.frz_own, Raw.frz_val, Raw.frz_lst, Wp_gI, Wp_gD, Wp_g1, Wp_g2I, Raw.dt_val, Raw.dt_own, Raw.dt_bor, Wp_isa, Wp_bool, Wp_tru, Wp_not, Wp_and, Wp_or, Wp_ofB, Wp_if, Wp_andV, Wp_orV, Wp_un, Wp_nil, Wp_cons, Raw.datas_nil, Raw.datas_cons, Raw.vals_nil, Raw.vals_cons, Wp_tup, Wp_lst, Wp_call, Wp_callO, Wp_set, Wp_app, Wp_pop, Wp_rev, Wp_range1, Wp_range2, Wp_err, Wp_erris, Ws_nx, Ws_bk, Ws_ct, Ws_retN, Ws_expr, Ws_ret, Ws_if, Ws_set, Ws_par, Ws_unp, Ws_raise, Ws_raise0, dEq_ii, dNe_ii, dLen_lst, dLen_wls, dLen_tup, ix_lst, ix_wls, ix_tup', enF, gSet, gTupD, gsCons, gsNil, ↓reduceIte, List.getElem?_cons_zero, List.getElem?_cons_succ, List.getElem?_nil, List.set_cons_zero, List.set_cons_succ, List.set_nil, List.length_cons, List.length_nil, List.replicate, List.cons_append, List.nil_append, List.append_nil, List.take, Option.map_some, decide_eq_true_eq, decide_eq_false_iff_not, Bool.not_eq_true', Bool.not_eq_false', Bool.not_not, Bool.not_true, Bool.not_false, true_and, and_true, false_and, and_false, imp_self, implies_true, not_false_eq_true, not_true_eq_false, true_implies, false_implies, Bool.true_eq_false, Bool.false_eq_true, forall_const, Nat.reduceAdd, Nat.reduceSub, Nat.reduceEqDiff, Nat.reduceLeDiff, mulOk_iff, divOk_iff, modOk_iff, powOk_iff, small_iff, isa_int_non, isa_int_bl, isa_int_int, isa_int_str, isa_int_tup, isa_int_lst, isa_int_wls, isa_int_dic, isa_bool_non, isa_bool_bl, isa_bool_int, isa_bool_str, isa_bool_tup, isa_bool_lst, isa_bool_wls, isa_bool_dic, isa_str_non, isa_str_bl, isa_str_int, isa_str_str, isa_str_tup, isa_str_lst, isa_str_wls, isa_str_dic, isa_list_non, isa_list_bl, isa_list_int, isa_list_str, isa_list_tup, isa_list_lst, isa_list_wls, isa_list_dic, isa_tuple_non, isa_tuple_bl, isa_tuple_int, isa_tuple_str, isa_tuple_tup, isa_tuple_lst, isa_tuple_wls, isa_tuple_dic, isa_list_tuple_non, isa_list_tuple_bl, isa_list_tuple_int, isa_list_tuple_str, isa_list_tuple_tup, isa_list_tuple_lst, isa_list_tuple_wls, isa_list_tuple_dic, isa_int_str_non, isa_int_str_bl, isa_int_str_int, isa_int_str_str, isa_int_str_tup, isa_int_str_lst, isa_int_str_wls, isa_int_str_dic, isa_str_int_non, isa_str_int_bl, isa_str_int_int, isa_str_int_str, isa_str_int_tup, isa_str_int_lst, isa_str_int_wls, isa_str_int_dic, isa_tuple_list_non, isa_tuple_list_bl, isa_tuple_list_int, isa_tuple_list_str, isa_tuple_list_tup, isa_tuple_list_lst, isa_tuple_list_wls, isa_tuple_list_dic, dIsN_bl, dNotN_bl, dIsN_int, dNotN_int, dIsN_str, dNotN_str, dIsN_tup, dNotN_tup, dIsN_lst, dNotN_lst, dIsN_wls, dNotN_wls, dIsN_dic, dNotN_dic, dIsN_non, dNotN_non, tru_bl, tru_non, tru_int, tru_lst, tru_wls, tru_tup, int_int, back_val', back_own', back_non]
    have hi : i = 0 ∨ i = 1 := by omega
    obtain ⟨nm, hat, hnm⟩ : ∃ nm : Str, L2.atI [Dt.str "view", .str "clock"] i = some (.str nm) ∧ ((i = 0 ∧ nm = "view") ∨ (i = 1 ∧ nm = "clock")) := by
      rcases hi with rfl | rfl
      · exact ⟨"view", rfl, .inl ⟨rfl, rfl⟩⟩
      · exact ⟨"clock", rfl, .inr ⟨rfl, rfl⟩⟩
    refine ws_seq fun K3 hK3 => ?_
    simp only [Wp_ret, Wp_no, Wp_bnd, Wp_ite, Raw.stay_val, Raw.stay_bor, Wp_m2, Wp_var, Wp_peek, Wp_move, Wp_frz, Raw.frz_own, Raw.frz_val, Raw.frz_lst, Wp_gI, Wp_gD, Wp_g1, Wp_g2I, Raw.dt_val, Raw.dt_own, Raw.dt_bor, Wp_isa, Wp_bool, Wp_tru, Wp_not, Wp_and, Wp_or, Wp_ofB, Wp_if, Wp_andV, Wp_orV, Wp_un, Wp_nil, Wp_cons, Raw.datas_nil, Raw.datas_cons, Raw.vals_nil, Raw.vals_cons, Wp_tup, Wp_lst, Wp_call, Wp_callO, Wp_set, Wp_app, Wp_pop, Wp_rev, Wp_range1, Wp_range2, Wp_err, Wp_erris, Ws_nx, Ws_bk, Ws_ct, Ws_retN, Ws_expr, Ws_ret, Ws_if, Ws_set, Ws_par, Ws_unp, Ws_raise, Ws_raise0, dEq_ii, dNe_ii, dLen_lst, dLen_wls, dLen_tup, ix_lst, ix_wls, ix_tup', enF, gSet, gTupD, gsCons, gsNil, ↓reduceIte, List.getElem?_cons_zero, List.getElem?_cons_succ, List.getElem?_nil, List.set_cons_zero, List.set_cons_succ, List.set_nil, List.length_cons, List.length_nil, List.replicate, List.cons_append, List.nil_append, List.append_nil, List.take, Option.map_some, decide_eq_true_eq, decide_eq_false_iff_not, Bool.not_eq_true', Bool.not_eq_false', Bool.not_not, Bool.not_true, Bool.not_false, true_and, and_true, false_and, and_false, imp_self, implies_true, not_false_eq_true, not_true_eq_false, true_implies, false_implies, Bool.true_eq_false, Bool.false_eq_true, forall_const, Nat.reduceAdd, Nat.reduceSub, Nat.reduceEqDiff, Nat.reduceLeDiff, mulOk_iff, divOk_iff, modOk_iff, powOk_iff, small_iff, isa_int_non, isa_int_bl, isa_int_int, isa_int_str, isa_int_tup, isa_int_lst, isa_int_wls, isa_int_dic, isa_bool_non, isa_bool_bl, isa_bool_int, isa_bool_str, isa_bool_tup, isa_bool_lst, isa_bool_wls, isa_bool_dic, isa_str_non, isa_str_bl, isa_str_int, isa_str_str, isa_str_tup, isa_str_lst, isa_str_wls, isa_str_dic, isa_list_non, isa_list_bl, isa_list_int, isa_list_str, isa_list_tup, isa_list_lst, isa_list_wls, isa_list_dic, isa_tuple_non, isa_tuple_bl, isa_tuple_int, isa_tuple_str, isa_tuple_tup, isa_tuple_lst, isa_tuple_wls, isa_tuple_dic, isa_list_tuple_non, isa_list_tuple_bl, isa_list_tuple_int, isa_list_tuple_str, isa_list_tuple_tup, isa_list_tuple_lst, isa_list_tuple_wls, isa_list_tuple_dic, isa_int_str_non, isa_int_str_bl, isa_int_str_int, isa_int_str_str, isa_int_str_tup, isa_int_str_lst, isa_int_str_wls, isa_int_str_dic, isa_str_int_non, isa_str_int_bl, isa_str_int_int, isa_str_int_str, isa_str_int_tup, isa_str_int_lst, isa_str_int_wls, isa_str_int_dic, isa_tuple_list_non, isa_tuple_list_bl, isa_tuple_list_int, isa_tuple_list_str, isa_tuple_list_tup, isa_tuple_list_lst, isa_tuple_list_wls, isa_tuple_list_dic, dIsN_bl, dNotN_bl, dIsN_int, dNotN_int, dIsN_str, dNotN_str, dIsN_tup, dNotN_tup, dIsN_lst, dNotN_lst, dIsN_wls, dNotN_wls, dIsN_dic, dNotN_dic, dIsN_non, dNotN_non, tru_bl, tru_non, tru_int, tru_lst, tru_wls, tru_tup, int_int, back_val', back_own', back_non]
    refine w_faultB hi h1 fun _ => ?_
    simp only [Wp_ret, Wp_no, Wp_bnd, Wp_ite, Raw.stay_val, Raw.stay_bor, Wp_m2, Wp_var, Wp_peek, Wp_move, Wp_frz, Raw.frz_own, Raw.frz_val, Raw.frz_lst, Wp_gI, Wp_gD, Wp_g1, Wp_g2I, Raw.dt_val, Raw.dt_own, Raw.dt_bor, Wp_isa, Wp_bool, Wp_tru, Wp_not, Wp_and, Wp_or, Wp_ofB, Wp_if, Wp_andV, Wp_orV, Wp_un, Wp_nil, Wp_cons, Raw.datas_nil, Raw.datas_cons, Raw.vals_nil, Raw.vals_cons, Wp_tup, Wp_lst, Wp_call, Wp_callO, Wp_set, Wp_app, Wp_pop, Wp_rev, Wp_range1, Wp_range2, Wp_err, Wp_erris, Ws_nx, Ws_bk, Ws_ct, Ws_retN, Ws_expr, Ws_ret, Ws_if, Ws_set, Ws_par, Ws_unp, Ws_raise, Ws_raise0, dEq_ii, dNe_ii, dLen_lst, dLen_wls, dLen_tup, ix_lst, ix_wls, ix_tup', enF, gSet, gTupD, gsCons, gsNil, ↓reduceIte, List.getElem?_cons_zero, List.getElem?_cons_succ, List.getElem?_nil, List.set_cons_zero, List.set_cons_succ, List.set_nil, List.length_cons, List.length_nil, List.replicate, List.cons_append, List.nil_append, List.append_nil, List.take, Option.map_some, decide_eq_true_eq, decide_eq_false_iff_not, Bool.not_eq_true', Bool.not_eq_false', Bool.not_not, Bool.not_true, Bool.not_false, true_and, and_true, false_and, and_false, imp_self, implies_true, not_false_eq_true, not_true_eq_false, true_implies, false_implies, Bool.true_eq_false, Bool.false_eq_true, forall_const, Nat.reduceAdd, Nat.reduceSub, Nat.reduceEqDiff, Nat.reduceLeDiff, mulOk_iff, divOk_iff, modOk_iff, powOk_iff, small_iff, isa_int_non, isa_int_bl, isa_int_int, isa_int_str, isa_int_tup, isa_int_lst, isa_int_wls, isa_int_dic, isa_bool_non, isa_bool_bl, isa_bool_int, isa_bool_str, isa_bool_tup, isa_bool_lst, isa_bool_wls, isa_bool_dic, isa_str_non, isa_str_bl, isa_str_int, isa_str_str, isa_str_tup, isa_str_lst, isa_str_wls, isa_str_dic, isa_list_non, isa_list_bl, isa_list_int, isa_list_str, isa_list_tup, isa_list_lst, isa_list_wls, isa_list_dic, isa_tuple_non, isa_tuple_bl, isa_tuple_int, isa_tuple_str, isa_tuple_tup, isa_tuple_lst, isa_tuple_wls, isa_tuple_dic, isa_list_tuple_non, isa_list_tuple_bl, isa_list_tuple_int, isa_list_tuple_str, isa_list_tuple_tup, isa_list_tuple_lst, isa_list_tuple_wls, isa_list_tuple_dic, isa_int_str_non, isa_int_str_bl, isa_int_str_int, isa_int_str_str, isa_int_str_tup, isa_int_str_lst, isa_int_str_wls, isa_int_str_dic, isa_str_int_non, isa_str_int_bl, isa_str_int_int, isa_str_int_str, isa_str_int_tup, isa_str_int_lst, isa_str_int_wls, isa_str_int_dic, isa_tuple_list_non, isa_tuple_list_bl, isa_tuple_list_int, isa_tuple_list_str, isa_tuple_list_tup, isa_tuple_list_lst, isa_tuple_list_wls, isa_tuple_list_dic, dIsN_bl, dNotN_bl, dIsN_int, dNotN_int, dIsN_str, dNotN_str, dIsN_tup, dNotN_tup, dIsN_lst, dNotN_lst, dIsN_wls, dNotN_wls, dIsN_dic, dNotN_dic, dIsN_non, dNotN_non, tru_bl, tru_non, tru_int, tru_lst, tru_wls, tru_tup, int_int, back_val', back_own', back_non, dNe_sb]
    refine w_faultB hi h1 fun _ => ?_
    simp only [Wp_ret, Wp_no, Wp_bnd, Wp_ite, Raw.stay_val, Raw.stay_bor, Wp_m2, Wp_var, Wp_peek, Wp_move, Wp_frz, Raw.frz_own, Raw.frz_val, Raw.frz_lst, Wp_gI, Wp_gD, Wp_g1, Wp_g2I, Raw.dt_val, Raw.dt_own, Raw.dt_bor, Wp_isa, Wp_bool, Wp_tru, Wp_not, Wp_and, Wp_or, Wp_ofB, Wp_if, Wp_andV, Wp_orV, Wp_un, Wp_nil, Wp_cons, Raw.datas_nil, Raw.datas_cons, Raw.vals_nil, Raw.vals_cons, Wp_tup, Wp_lst, Wp_call, Wp_callO, Wp_set, Wp_app, Wp_pop, Wp_rev, Wp_range1, Wp_range2, Wp_err, Wp_erris, Ws_nx, Ws_bk, Ws_ct, Ws_retN, Ws_expr, Ws_ret, Ws_if, Ws_set, Ws_par, Ws_unp, Ws_raise, Ws_raise0, dEq_ii, dNe_ii, dLen_lst, dLen_wls, dLen_tup, ix_lst, ix_wls, ix_tup', enF, gSet, gTupD, gsCons, gsNil, ↓reduceIte, List.getElem?_cons_zero, List.getElem?_cons_succ, List.getElem?_nil, List.set_cons_zero, List.set_cons_succ, List.set_nil, List.length_cons, List.length_nil, List.replicate, List.cons_append, List.nil_append, List.append_nil, List.take, Option.map_some, decide_eq_true_eq, decide_eq_false_iff_not, Bool.not_eq_true', Bool.not_eq_false', Bool.not_not, Bool.not_true, Bool.not_false, true_and, and_true, false_and, and_false, imp_self, implies_true, not_false_eq_true, not_true_eq_false, true_implies, false_implies, Bool.true_eq_false, Bool.false_eq_true, forall_const, Nat.reduceAdd, Nat.reduceSub, Nat.reduceEqDiff, Nat.reduceLeDiff, mulOk_iff, divOk_iff, modOk_iff, powOk_iff, small_iff, isa_int_non, isa_int_bl, isa_int_int, isa_int_str, isa_int_tup, isa_int_lst, isa_int_wls, isa_int_dic, isa_bool_non, isa_bool_bl, isa_bool_int, isa_bool_str, isa_bool_tup, isa_bool_lst, isa_bool_wls, isa_bool_dic, isa_str_non, isa_str_bl, isa_str_int, isa_str_str, isa_str_tup, isa_str_lst, isa_str_wls, isa_str_dic, isa_list_non, isa_list_bl, isa_list_int, isa_list_str, isa_list_tup, isa_list_lst, isa_list_wls, isa_list_dic, isa_tuple_non, isa_tuple_bl, isa_tuple_int, isa_tuple_str, isa_tuple_tup, isa_tuple_lst, isa_tuple_wls, isa_tuple_dic, isa_list_tuple_non, isa_list_tuple_bl, isa_list_tuple_int, isa_list_tuple_str, isa_list_tuple_tup, isa_list_tuple_lst, isa_list_tuple_wls, isa_list_tuple_dic, isa_int_str_non, isa_int_str_bl, isa_int_str_int, isa_int_str_str, isa_int_str_tup, isa_int_str_lst, isa_int_str_wls, isa_int_str_dic, isa_str_int_non, isa_str_int_bl, isa_str_int_int, isa_str_int_str, isa_str_int_tup, isa_str_int_lst, isa_str_int_wls, isa_str_int_dic, isa_tuple_list_non, isa_tuple_list_bl, isa_tuple_list_int, isa_tuple_list_str, isa_tuple_list_tup, isa_tuple_list_lst, isa_tuple_list_wls, isa_tuple_list_dic, dIsN_bl, dNotN_bl, dIsN_int, dNotN_int, dIsN_str, dNotN_str, dIsN_tup, dNotN_tup, dIsN_lst, dNotN_lst, dIsN_wls, dNotN_wls, dIsN_dic, dNotN_dic, dIsN_non, dNotN_non, tru_bl, tru_non, tru_int, tru_lst, tru_wls, tru_tup, int_int, back_val', back_own', back_non, dNe_sb]
    refine hK3 _ ?_
    refine ws_seq fun K4 hK4 => ?_
    simp only [Wp_ret, Wp_no, Wp_bnd, Wp_ite, Raw.stay_val, Raw.stay_bor, Wp_m2, Wp_var, Wp_peek, Wp_move, Wp_frz, Raw.frz_own, Raw.frz_val, Raw.frz_lst, Wp_gI, Wp_gD, Wp_g1, Wp_g2I, Raw.dt_val, Raw.dt_own, Raw.dt_bor, Wp_isa, Wp_bool, Wp_tru, Wp_not, Wp_and, Wp_or, Wp_ofB, Wp_if, Wp_andV, Wp_orV, Wp_un, Wp_nil, Wp_cons, Raw.datas_nil, Raw.datas_cons, Raw.vals_nil, Raw.vals_cons, Wp_tup, Wp_lst, Wp_call, Wp_callO, Wp_set, Wp_app, Wp_pop, Wp_rev, Wp_range1, Wp_range2, Wp_err, Wp_erris, Ws_nx, Ws_bk, Ws_ct, Ws_retN, Ws_expr, Ws_ret, Ws_if, Ws_set, Ws_par, Ws_unp, Ws_raise, Ws_raise0, dEq_ii, dNe_ii, dLen_lst, dLen_wls, dLen_tup, ix_lst, ix_wls, ix_tup', enF, gSet, gTupD, gsCons, gsNil, ↓reduceIte, List.getElem?_cons_zero, List.getElem?_cons_succ, List.getElem?_nil, List.set_cons_zero, List.set_cons_succ, List.set_nil, List.length_cons, List.length_nil, List.replicate, List.cons_append, List.nil_append, List.append_nil, List.take, Option.map_some, decide_eq_true_eq, decide_eq_false_iff_not, Bool.not_eq_true', Bool.not_eq_false', Bool.not_not, Bool.not_true, Bool.not_false, true_and, and_true, false_and, and_false, imp_self, implies_true, not_false_eq_true, not_true_eq_false, true_implies, false_implies, Bool.true_eq_false, Bool.false_eq_true, forall_const, Nat.reduceAdd, Nat.reduceSub, Nat.reduceEqDiff, Nat.reduceLeDiff, mulOk_iff, divOk_iff, modOk_iff, powOk_iff, small_iff, isa_int_non, isa_int_bl, isa_int_int, isa_int_str, isa_int_tup, isa_int_lst, isa_int_wls, isa_int_dic, isa_bool_non, isa_bool_bl, isa_bool_int, isa_bool_str, isa_bool_tup, isa_bool_lst, isa_bool_wls, isa_bool_dic, isa_str_non, isa_str_bl, isa_str_int, isa_str_str, isa_str_tup, isa_str_lst, isa_str_wls, isa_str_dic, isa_list_non, isa_list_bl, isa_list_int, isa_list_str, isa_list_tup, isa_list_lst, isa_list_wls, isa_list_dic, isa_tuple_non, isa_tuple_bl, isa_tuple_int, isa_tuple_str, isa_tuple_tup, isa_tuple_lst, isa_tuple_wls, isa_tuple_dic, isa_list_tuple_non, isa_list_tuple_bl, isa_list_tuple_int, isa_list_tuple_str, isa_list_tuple_tup, isa_list_tuple_lst, isa_list_tuple_wls, isa_list_tuple_dic, isa_int_str_non, isa_int_str_bl, isa_int_str_int, isa_int_str_str, isa_int_str_tup, isa_int_str_lst, isa_int_str_wls, isa_int_str_dic, isa_str_int_non, isa_str_int_bl, isa_str_int_int, isa_str_int_str, isa_str_int_tup, isa_str_int_lst, isa_str_int_wls, isa_str_int_dic, isa_tuple_list_non, isa_tuple_list_bl, isa_tuple_list_int, isa_tuple_list_str, isa_tuple_list_tup, isa_tuple_list_lst, isa_tuple_list_wls, isa_tuple_list_dic, dIsN_bl, dNotN_bl, dIsN_int, dNotN_int, dIsN_str, dNotN_str, dIsN_tup, dNotN_tup, dIsN_lst, dNotN_lst, dIsN_wls, dNotN_wls, dIsN_dic, dNotN_dic, dIsN_non, dNotN_non, tru_bl, tru_non, tru_int, tru_lst, tru_wls, tru_tup, int_int, back_val', back_own', back_non]
    refine hK4 _ ?_
    refine ws_seq fun K5 hK5 => ?_
    have key : K5 [.val bad, .val (.int b), .own (.lst [.str "view", .str "clock"]), .val (.int i), .val worse] := by
      refine hK5 _ ?_
      simp only [Wp_ret, Wp_no, Wp_bnd, Wp_ite, Raw.stay_val, Raw.stay_bor, Wp_m2, Wp_var, Wp_peek, Wp_move, Wp_frz, Raw.frz_own, Raw.frz_val, Raw.frz_lst, Wp_gI, Wp_gD, Wp_g1, Wp_g2I, Raw.dt_val, Raw.dt_own, Raw.dt_bor, Wp_isa, Wp_bool, Wp_tru, Wp_not, Wp_and, Wp_or, Wp_ofB, Wp_if, Wp_andV, Wp_orV, Wp_un, Wp_nil, Wp_cons, Raw.datas_nil, Raw.datas_cons, Raw.vals_nil, Raw.vals_cons, Wp_tup, Wp_lst, Wp_call, Wp_callO, Wp_set, Wp_app, Wp_pop, Wp_rev, Wp_range1, Wp_range2, Wp_err, Wp_erris, Ws_nx, Ws_bk, Ws_ct, Ws_retN, Ws_expr, Ws_ret, Ws_if, Ws_set, Ws_par, Ws_unp, Ws_raise, Ws_raise0, dEq_ii, dNe_ii, dLen_lst, dLen_wls, dLen_tup, ix_lst, ix_wls, ix_tup', enF, gSet, gTupD, gsCons, gsNil, ↓reduceIte, List.getElem?_cons_zero, List.getElem?_cons_succ, List.getElem?_nil, List.set_cons_zero, List.set_cons_succ, List.set_nil, List.length_cons, List.length_nil, List.replicate, List.cons_append, List.nil_append, List.append_nil, List.take, Option.map_some, decide_eq_true_eq, decide_eq_false_iff_not, Bool.not_eq_true', Bool.not_eq_false', Bool.not_not, Bool.not_true, Bool.not_false, true_and, and_true, false_and, and_false, imp_self, implies_true, not_false_eq_true, not_true_eq_false, true_implies, false_implies, Bool.true_eq_false, Bool.false_eq_true, forall_const, Nat.reduceAdd, Nat.reduceSub, Nat.reduceEqDiff, Nat.reduceLeDiff, mulOk_iff, divOk_iff, modOk_iff, powOk_iff, small_iff, isa_int_non, isa_int_bl, isa_int_int, isa_int_str, isa_int_tup, isa_int_lst, isa_int_wls, isa_int_dic, isa_bool_non, isa_bool_bl, isa_bool_int, isa_bool_str, isa_bool_tup, isa_bool_lst, isa_bool_wls, isa_bool_dic, isa_str_non, isa_str_bl, isa_str_int, isa_str_str, isa_str_tup, isa_str_lst, isa_str_wls, isa_str_dic, isa_list_non, isa_list_bl, isa_list_int, isa_list_str, isa_list_tup, isa_list_lst, isa_list_wls, isa_list_dic, isa_tuple_non, isa_tuple_bl, isa_tuple_int, isa_tuple_str, isa_tuple_tup, isa_tuple_lst, isa_tuple_wls, isa_tuple_dic, isa_list_tuple_non, isa_list_tuple_bl, isa_list_tuple_int, isa_list_tuple_str, isa_list_tuple_tup, isa_list_tuple_lst, isa_list_tuple_wls, isa_list_tuple_dic, isa_int_str_non, isa_int_str_bl, isa_int_str_int, isa_int_str_str, isa_int_str_tup, isa_int_str_lst, isa_int_str_wls, isa_int_str_dic, isa_str_int_non, isa_str_int_bl, isa_str_int_int, isa_str_int_str, isa_str_int_tup, isa_str_int_lst, isa_str_int_wls, isa_str_int_dic, isa_tuple_list_non, isa_tuple_list_bl, isa_tuple_list_int, isa_tuple_list_str, isa_tuple_list_tup, isa_tuple_list_lst, isa_tuple_list_wls, isa_tuple_list_dic, dIsN_bl, dNotN_bl, dIsN_int, dNotN_int, dIsN_str, dNotN_str, dIsN_tup, dNotN_tup, dIsN_lst, dNotN_lst, dIsN_wls, dNotN_wls, dIsN_dic, dNotN_dic, dIsN_non, dNotN_non, tru_bl, tru_non, tru_int, tru_lst, tru_wls, tru_tup, int_int, back_val', back_own', back_non]
      refine w_fault hnm ⟨b, rfl, hb⟩ hw fun _ => ?_
      simp only [Wp_ret, Wp_no, Wp_bnd, Wp_ite, Raw.stay_val, Raw.stay_bor, Wp_m2, Wp_var, Wp_peek, Wp_move, Wp_frz, Raw.frz_own, Raw.frz_val, Raw.frz_lst, Wp_gI, Wp_gD, Wp_g1, Wp_g2I, Raw.dt_val, Raw.dt_own, Raw.dt_bor, Wp_isa, Wp_bool, Wp_tru, Wp_not, Wp_and, Wp_or, Wp_ofB, Wp_if, Wp_andV, Wp_orV, Wp_un, Wp_nil, Wp_cons, Raw.datas_nil, Raw.datas_cons, Raw.vals_nil, Raw.vals_cons, Wp_tup, Wp_lst, Wp_call, Wp_callO, Wp_set, Wp_app, Wp_pop, Wp_rev, Wp_range1, Wp_range2, Wp_err, Wp_erris, Ws_nx, Ws_bk, Ws_ct, Ws_retN, Ws_expr, Ws_ret, Ws_if, Ws_set, Ws_par, Ws_unp, Ws_raise, Ws_raise0, dEq_ii, dNe_ii, dLen_lst, dLen_wls, dLen_tup, ix_lst, ix_wls, ix_tup', enF, gSet, gTupD, gsCons, gsNil, ↓reduceIte, List.getElem?_cons_zero, List.getElem?_cons_succ, List.getElem?_nil, List.set_cons_zero, List.set_cons_succ, List.set_nil, List.length_cons, List.length_nil, List.replicate, List.cons_append, List.nil_append, List.append_nil, List.take, Option.map_some, decide_eq_true_eq, decide_eq_false_iff_not, Bool.not_eq_true', Bool.not_eq_false', Bool.not_not, Bool.not_true, Bool.not_false, true_and, and_true, false_and, and_false, imp_self, implies_true, not_false_eq_true, not_true_eq_false, true_implies, false_implies, Bool.true_eq_false, Bool.false_eq_true, forall_const, Nat.reduceAdd, Nat.reduceSub, Nat.reduceEqDiff, Nat.reduceLeDiff, mulOk_iff, divOk_iff, modOk_iff, powOk_iff, small_iff, isa_int_non, isa_int_bl, isa_int_int, isa_int_str, isa_int_tup, isa_int_lst, isa_int_wls, isa_int_dic, isa_bool_non, isa_bool_bl, isa_bool_int, isa_bool_str, isa_bool_tup, isa_bool_lst, isa_bool_wls, isa_bool_dic, isa_str_non, isa_str_bl, isa_str_int, isa_str_str, isa_str_tup, isa_str_lst, isa_str_wls, isa_str_dic, isa_list_non, isa_list_bl, isa_list_int, isa_list_str, isa_list_tup, isa_list_lst, isa_list_wls, isa_list_dic, isa_tuple_non, isa_tuple_bl, isa_tuple_int, isa_tuple_str, isa_tuple_tup, isa_tuple_lst, isa_tuple_wls, isa_tuple_dic, isa_list_tuple_non, isa_list_tuple_bl, isa_list_tuple_int, isa_list_tuple_str, isa_list_tuple_tup, isa_list_tuple_lst, isa_list_tuple_wls, isa_list_tuple_dic, isa_int_str_non, isa_int_str_bl, isa_int_str_int, isa_int_str_str, isa_int_str_tup, isa_int_str_lst, isa_int_str_wls, isa_int_str_dic, isa_str_int_non, isa_str_int_bl, isa_str_int_int, isa_str_int_str, isa_str_int_tup, isa_str_int_lst, isa_str_int_wls, isa_str_int_dic, isa_tuple_list_non, isa_tuple_list_bl, isa_tuple_list_int, isa_tuple_list_str, isa_tuple_list_tup, isa_tuple_list_lst, isa_tuple_list_wls, isa_tuple_list_dic, dIsN_bl, dNotN_bl, dIsN_int, dNotN_int, dIsN_str, dNotN_str, dIsN_tup, dNotN_tup, dIsN_lst, dNotN_lst, dIsN_wls, dNotN_wls, dIsN_dic, dNotN_dic, dIsN_non, dNotN_non, tru_bl, tru_non, tru_int, tru_lst, tru_wls, tru_tup, int_int, back_val', back_own', back_non, hat, dNe_sb]
      exact ⟨_, _, rfl⟩
    simp only [Wp_ret, Wp_no, Wp_bnd, Wp_ite, Raw.stay_val, Raw.stay_bor, Wp_m2, Wp_var, Wp_peek, Wp_move, Wp_frz, Raw.frz_own, Raw.frz_val, Raw.frz_lst, Wp_gI, Wp_gD, Wp_g1, Wp_g2I, Raw.dt_val, Raw.dt_own, Raw.dt_bor, Wp_isa, Wp_bool, Wp_tru, Wp_not, Wp_and, Wp_or, Wp_ofB, Wp_if, Wp_andV, Wp_orV, Wp_un, Wp_nil, Wp_cons, Raw.datas_nil, Raw.datas_cons, Raw.vals_nil, Raw.vals_cons, Wp_tup, Wp_lst, Wp_call, Wp_callO, Wp_set, Wp_app, Wp_pop, Wp_rev, Wp_range1, Wp_range2, Wp_err, Wp_erris, Ws_nx, Ws_bk, Ws_ct, Ws_retN, Ws_expr, Ws_ret, Ws_if, Ws_set, Ws_par, Ws_unp, Ws_raise, Ws_raise0, dEq_ii, dNe_ii, dLen_lst, dLen_wls, dLen_tup, ix_lst, ix_wls, ix_tup', enF, gSet, gTupD, gsCons, gsNil, ↓reduceIte, List.getElem?_cons_zero, List.getElem?_cons_succ, List.getElem?_nil, List.set_cons_zero, List.set_cons_succ, List.set_nil, List.length_cons, List.length_nil, List.replicate, List.cons_append, List.nil_append, List.append_nil, List.take, Option.map_some, decide_eq_true_eq, decide_eq_false_iff_not, Bool.not_eq_true', Bool.not_eq_false', Bool.not_not, Bool.not_true, Bool.not_false, true_and, and_true, false_and, and_false, imp_self, implies_true, not_false_eq_true, not_true_eq_false, true_implies, false_implies, Bool.true_eq_false, Bool.false_eq_true, forall_const, Nat.reduceAdd, Nat.reduceSub, Nat.reduceEqDiff, Nat.reduceLeDiff, mulOk_iff, divOk_iff, modOk_iff, powOk_iff, small_iff, isa_int_non, isa_int_bl, isa_int_int, isa_int_str, isa_int_tup, isa_int_lst, isa_int_wls, isa_int_dic, isa_bool_non, isa_bool_bl, isa_bool_int, isa_bool_str, isa_bool_tup, isa_bool_lst, isa_bool_wls, isa_bool_dic, isa_str_non, isa_str_bl, isa_str_int, isa_str_str, isa_str_tup, isa_str_lst, isa_str_wls, isa_str_dic, isa_list_non, isa_list_bl, isa_list_int, isa_list_str, isa_list_tup, isa_list_lst, isa_list_wls, isa_list_dic, isa_tuple_non, isa_tuple_bl, isa_tuple_int, isa_tuple_str, isa_tuple_tup, isa_tuple_lst, isa_tuple_wls, isa_tuple_dic, isa_list_tuple_non, isa_list_tuple_bl, isa_list_tuple_int, isa_list_tuple_str, isa_list_tuple_tup, isa_list_tuple_lst, isa_list_tuple_wls, isa_list_tuple_dic, isa_int_str_non, isa_int_str_bl, isa_int_str_int, isa_int_str_str, isa_int_str_tup, isa_int_str_lst, isa_int_str_wls, isa_int_str_dic, isa_str_int_non, isa_str_int_bl, isa_str_int_int, isa_str_int_str, isa_str_int_tup, isa_str_int_lst, isa_str_int_wls, isa_str_int_dic, isa_tuple_list_non, isa_tuple_list_bl, isa_tuple_list_int, isa_tuple_list_str, isa_tuple_list_tup, isa_tuple_list_lst, isa_tuple_list_wls, isa_tuple_list_dic, dIsN_bl, dNotN_bl, dIsN_int, dNotN_int, dIsN_str, dNotN_str, dIsN_tup, dNotN_tup, dIsN_lst, dNotN_lst, dIsN_wls, dNotN_wls, dIsN_dic, dNotN_dic, dIsN_non, dNotN_non, tru_bl, tru_non, tru_int, tru_lst, tru_wls, tru_tup, int_int, back_val', back_own', back_non, hz]
    rw [hwz] at key
    cases z
    · exact ⟨fun h => (nomatch h), fun _ => key⟩
    · exact ⟨fun _ => key, fun h => (nomatch h)⟩
  · rintro ρ ⟨x, y, rfl⟩
    refine hK2 _ ?_
    simp only [Wp_ret, Wp_no, Wp_bnd, Wp_ite, Raw.stay_val, Raw.stay_bor, Wp_m2, Wp_var, Wp_peek, Wp_move, Wp_frz, Raw.frz_own, Raw.frz_val, Raw.frz_lst, Wp_gI, Wp_gD, Wp_g1, Wp_g2I, Raw.dt_val, Raw.dt_own, Raw.dt_bor, Wp_isa, Wp_bool, Wp_tru, Wp_not, Wp_and, Wp_or, Wp_ofB, Wp_if, Wp_andV, Wp_orV, Wp_un, Wp_nil, Wp_cons, Raw.datas_nil, Raw.datas_cons, Raw.vals_nil, Raw.vals_cons, Wp_tup, Wp_lst, Wp_call, Wp_callO, Wp_set, Wp_app, Wp_pop, Wp_rev, Wp_range1, Wp_range2, Wp_err, Wp_erris, Ws_nx, Ws_bk, Ws_ct, Ws_retN, Ws_expr, Ws_ret, Ws_if, Ws_set, Ws_par, Ws_unp, Ws_raise, Ws_raise0, dEq_ii, dNe_ii, dLen_lst, dLen_wls, dLen_tup, ix_lst, ix_wls, ix_tup', enF, gSet, gTupD, gsCons, gsNil, ↓reduceIte, List.getElem?_cons_zero, List.getElem?_cons_succ, List.getElem?_nil, List.set_cons_zero, List.set_cons_succ, List.set_nil, List.length_cons, List.length_nil, List.replicate, List.cons_append, List.nil_append, List.append_nil, List.take, Option.map_some, decide_eq_true_eq, decide_eq_false_iff_not, Bool.not_eq_true', Bool.not_eq_false', Bool.not_not, Bool.not_true, Bool.not_false, true_and, and_true, false_and, and_false, imp_self, implies_true, not_false_eq_true, not_true_eq_false, true_implies, false_implies, Bool.true_eq_false, Bool.false_eq_true, forall_const, Nat.reduceAdd, Nat.reduceSub, Nat.reduceEqDiff, Nat.reduceLeDiff, mulOk_iff, divOk_iff, modOk_iff, powOk_iff, small_iff, isa_int_non, isa_int_bl, isa_int_int, isa_int_str, isa_int_tup, isa_int_lst, isa_int_wls, isa_int_dic, isa_bool_non, isa_bool_bl, isa_bool_int, isa_bool_str, isa_bool_tup, isa_bool_lst, isa_bool_wls, isa_bool_dic, isa_str_non, isa_str_bl, isa_str_int, isa_str_str, isa_str_tup, isa_str_lst, isa_str_wls, isa_str_dic, isa_list_non, isa_list_bl, isa_list_int, isa_list_str, isa_list_tup, isa_list_lst, isa_list_wls, isa_list_dic, isa_tuple_non, isa_tuple_bl, isa_tuple_int, isa_tuple_str, isa_tuple_tup, isa_tuple_lst, isa_tuple_wls, isa_tuple_dic, isa_list_tuple_non, isa_list_tuple_bl, isa_list_tuple_int, isa_list_tuple_str, isa_list_tuple_tup, isa_list_tuple_lst, isa_list_tuple_wls, isa_list_tuple_dic, isa_int_str_non, isa_int_str_bl, isa_int_str_int, isa_int_str_str, isa_int_str_tup, isa_int_str_lst, isa_int_str_wls, isa_int_str_dic, isa_str_int_non, isa_str_int_bl, isa_str_int_int, isa_str_int_str, isa_str_int_tup, isa_str_int_lst, isa_str_int_wls, isa_str_int_dic, isa_tuple_list_non, isa_tuple_list_bl, isa_tuple_list_int, isa_tuple_list_str, isa_tuple_list_tup, isa_tuple_list_lst, isa_tuple_list_wls, isa_tuple_list_dic, dIsN_bl, dNotN_bl, dIsN_int, dNotN_int, dIsN_str, dNotN_str, dIsN_tup, dNotN_tup, dIsN_lst, dNotN_lst, dIsN_wls, dNotN_wls, dIsN_dic, dNotN_dic, dIsN_non, dNotN_non, tru_bl, tru_non, tru_int, tru_lst, tru_wls, tru_tup, int_int, back_val', back_own', back_non]
    exact q _
theorem or2 {P R A B : Prop} (a : A) (b : B) : (P → A) ∧ (¬P → (R → A) ∧ (¬R → B)) := ⟨fun _ => a, fun _ => ⟨fun _ => a, fun _ => b⟩⟩
theorem law_true {ns : List Int} (hl : ns.length ≤ 63) : ∃ ls, m_law [.val (.wls (ns.map .int))] = .ok (.val (.bl true)) ls := by
  suffices h : Wo (m_law [.val (.wls (ns.map .int))]) (fun r _ => r = .val (.bl true)) (fun _ _ => False) from wo_ok h
  unfold m_law
  refine wo_fn ?_
  unfold b_law
  refine ws_seq fun K hK => ?_
  simp only [Wp_ret, Wp_no, Wp_bnd, Wp_ite, Raw.stay_val, Raw.stay_bor, Wp_m2, Wp_var, Wp_peek, Wp_move, Wp_frz, Raw.frz_own, Raw.frz_val, Raw.frz_lst, Wp_gI, Wp_gD, Wp_g1, Wp_g2I, Raw.dt_val, Raw.dt_own, Raw.dt_bor, Wp_isa, Wp_bool, Wp_tru, Wp_not, Wp_and, Wp_or, Wp_ofB, Wp_if, Wp_andV, Wp_orV, Wp_un, Wp_nil, Wp_cons, Raw.datas_nil, Raw.datas_cons, Raw.vals_nil, Raw.vals_cons, Wp_tup, Wp_lst, Wp_call, Wp_callO, Wp_set, Wp_app, Wp_pop, Wp_rev, Wp_range1, Wp_range2, Wp_err, Wp_erris, Ws_nx, Ws_bk, Ws_ct, Ws_retN, Ws_expr, Ws_ret, Ws_if, Ws_set, Ws_par, Ws_unp, Ws_raise, Ws_raise0, dEq_ii, dNe_ii, dLen_lst, dLen_wls, dLen_tup, ix_lst, ix_wls, ix_tup', enF, gSet, gTupD, gsCons, gsNil, ↓reduceIte, List.getElem?_cons_zero, List.getElem?_cons_succ, List.getElem?_nil, List.set_cons_zero, List.set_cons_succ, List.set_nil, List.length_cons, List.length_nil, List.replicate, List.cons_append, List.nil_append, List.append_nil, List.take, Option.map_some, decide_eq_true_eq, decide_eq_false_iff_not, Bool.not_eq_true', Bool.not_eq_false', Bool.not_not, Bool.not_true, Bool.not_false, true_and, and_true, false_and, and_false, imp_self, implies_true, not_false_eq_true, not_true_eq_false, true_implies, false_implies, Bool.true_eq_false, Bool.false_eq_true, forall_const, Nat.reduceAdd, Nat.reduceSub, Nat.reduceEqDiff, Nat.reduceLeDiff, mulOk_iff, divOk_iff, modOk_iff, powOk_iff, small_iff, isa_int_non, isa_int_bl, isa_int_int, isa_int_str, isa_int_tup, isa_int_lst, isa_int_wls, isa_int_dic, isa_bool_non, isa_bool_bl, isa_bool_int, isa_bool_str, isa_bool_tup, isa_bool_lst, isa_bool_wls, isa_bool_dic, isa_str_non, isa_str_bl, isa_str_int, isa_str_str, isa_str_tup, isa_str_lst, isa_str_wls, isa_str_dic, isa_list_non, isa_list_bl, isa_list_int, isa_list_str, isa_list_tup, isa_list_lst, isa_list_wls, isa_list_dic, isa_tuple_non, isa_tuple_bl, isa_tuple_int, isa_tuple_str, isa_tuple_tup, isa_tuple_lst, isa_tuple_wls, isa_tuple_dic, isa_list_tuple_non, isa_list_tuple_bl, isa_list_tuple_int, isa_list_tuple_str, isa_list_tuple_tup, isa_list_tuple_lst, isa_list_tuple_wls, isa_list_tuple_dic, isa_int_str_non, isa_int_str_bl, isa_int_str_int, isa_int_str_str, isa_int_str_tup, isa_int_str_lst, isa_int_str_wls, isa_int_str_dic, isa_str_int_non, isa_str_int_bl, isa_str_int_int, isa_str_int_str, isa_str_int_tup, isa_str_int_lst, isa_str_int_wls, isa_str_int_dic, isa_tuple_list_non, isa_tuple_list_bl, isa_tuple_list_int, isa_tuple_list_str, isa_tuple_list_tup, isa_tuple_list_lst, isa_tuple_list_wls, isa_tuple_list_dic, dIsN_bl, dNotN_bl, dIsN_int, dNotN_int, dIsN_str, dNotN_str, dIsN_tup, dNotN_tup, dIsN_lst, dNotN_lst, dIsN_wls, dNotN_wls, dIsN_dic, dNotN_dic, dIsN_non, dNotN_non, tru_bl, tru_non, tru_int, tru_lst, tru_wls, tru_tup, int_int, back_val', back_own', back_non]
  refine w_pool hl fun xs _ => hK _ ?_
  refine ws_seq fun K2 hK2 => ?_
  simp only [Wp_ret, Wp_no, Wp_bnd, Wp_ite, Raw.stay_val, Raw.stay_bor, Wp_m2, Wp_var, Wp_peek, Wp_move, Wp_frz, Raw.frz_own, Raw.frz_val, Raw.frz_lst, Wp_gI, Wp_gD, Wp_g1, Wp_g2I, Raw.dt_val, Raw.dt_own, Raw.dt_bor, Wp_isa, Wp_bool, Wp_tru, Wp_not, Wp_and, Wp_or, Wp_ofB, Wp_if, Wp_andV, Wp_orV, Wp_un, Wp_nil, Wp_cons, Raw.datas_nil, Raw.datas_cons, Raw.vals_nil, Raw.vals_cons, Wp_tup, Wp_lst, Wp_call, Wp_callO, Wp_set, Wp_app, Wp_pop, Wp_rev, Wp_range1, Wp_range2, Wp_err, Wp_erris, Ws_nx, Ws_bk, Ws_ct, Ws_retN, Ws_expr, Ws_ret, Ws_if, Ws_set, Ws_par, Ws_unp, Ws_raise, Ws_raise0, dEq_ii, dNe_ii, dLen_lst, dLen_wls, dLen_tup, ix_lst, ix_wls, ix_tup', enF, gSet, gTupD, gsCons, gsNil, ↓reduceIte, List.getElem?_cons_zero, List.getElem?_cons_succ, List.getElem?_nil, List.set_cons_zero, List.set_cons_succ, List.set_nil, List.length_cons, List.length_nil, List.replicate, List.cons_append, List.nil_append, List.append_nil, List.take, Option.map_some, decide_eq_true_eq, decide_eq_false_iff_not, Bool.not_eq_true', Bool.not_eq_false', Bool.not_not, Bool.not_true, Bool.not_false, true_and, and_true, false_and, and_false, imp_self, implies_true, not_false_eq_true, not_true_eq_false, true_implies, false_implies, Bool.true_eq_false, Bool.false_eq_true, forall_const, Nat.reduceAdd, Nat.reduceSub, Nat.reduceEqDiff, Nat.reduceLeDiff, mulOk_iff, divOk_iff, modOk_iff, powOk_iff, small_iff, isa_int_non, isa_int_bl, isa_int_int, isa_int_str, isa_int_tup, isa_int_lst, isa_int_wls, isa_int_dic, isa_bool_non, isa_bool_bl, isa_bool_int, isa_bool_str, isa_bool_tup, isa_bool_lst, isa_bool_wls, isa_bool_dic, isa_str_non, isa_str_bl, isa_str_int, isa_str_str, isa_str_tup, isa_str_lst, isa_str_wls, isa_str_dic, isa_list_non, isa_list_bl, isa_list_int, isa_list_str, isa_list_tup, isa_list_lst, isa_list_wls, isa_list_dic, isa_tuple_non, isa_tuple_bl, isa_tuple_int, isa_tuple_str, isa_tuple_tup, isa_tuple_lst, isa_tuple_wls, isa_tuple_dic, isa_list_tuple_non, isa_list_tuple_bl, isa_list_tuple_int, isa_list_tuple_str, isa_list_tuple_tup, isa_list_tuple_lst, isa_list_tuple_wls, isa_list_tuple_dic, isa_int_str_non, isa_int_str_bl, isa_int_str_int, isa_int_str_str, isa_int_str_tup, isa_int_str_lst, isa_int_str_wls, isa_int_str_dic, isa_str_int_non, isa_str_int_bl, isa_str_int_int, isa_str_int_str, isa_str_int_tup, isa_str_int_lst, isa_str_int_wls, isa_str_int_dic, isa_tuple_list_non, isa_tuple_list_bl, isa_tuple_list_int, isa_tuple_list_str, isa_tuple_list_tup, isa_tuple_list_lst, isa_tuple_list_wls, isa_tuple_list_dic, dIsN_bl, dNotN_bl, dIsN_int, dNotN_int, dIsN_str, dNotN_str, dIsN_tup, dNotN_tup, dIsN_lst, dNotN_lst, dIsN_wls, dNotN_wls, dIsN_dic, dNotN_dic, dIsN_non, dNotN_non, tru_bl, tru_non, tru_int, tru_lst, tru_wls, tru_tup, int_int, back_val', back_own', back_non]
  refine w_take (by decide) fun x1 ys1 g1 g1' => ?_
  simp only [Wp_ret, Wp_no, Wp_bnd, Wp_ite, Raw.stay_val, Raw.stay_bor, Wp_m2, Wp_var, Wp_peek, Wp_move, Wp_frz, Raw.frz_own, Raw.frz_val, Raw.frz_lst, Wp_gI, Wp_gD, Wp_g1, Wp_g2I, Raw.dt_val, Raw.dt_own, Raw.dt_bor, Wp_isa, Wp_bool, Wp_tru, Wp_not, Wp_and, Wp_or, Wp_ofB, Wp_if, Wp_andV, Wp_orV, Wp_un, Wp_nil, Wp_cons, Raw.datas_nil, Raw.datas_cons, Raw.vals_nil, Raw.vals_cons, Wp_tup, Wp_lst, Wp_call, Wp_callO, Wp_set, Wp_app, Wp_pop, Wp_rev, Wp_range1, Wp_range2, Wp_err, Wp_erris, Ws_nx, Ws_bk, Ws_ct, Ws_retN, Ws_expr, Ws_ret, Ws_if, Ws_set, Ws_par, Ws_unp, Ws_raise, Ws_raise0, dEq_ii, dNe_ii, dLen_lst, dLen_wls, dLen_tup, ix_lst, ix_wls, ix_tup', enF, gSet, gTupD, gsCons, gsNil, ↓reduceIte, List.getElem?_cons_zero, List.getElem?_cons_succ, List.getElem?_nil, List.set_cons_zero, List.set_cons_succ, List.set_nil, List.length_cons, List.length_nil, List.replicate, List.cons_append, List.nil_append, List.append_nil, List.take, Option.map_some, decide_eq_true_eq, decide_eq_false_iff_not, Bool.not_eq_true', Bool.not_eq_false', Bool.not_not, Bool.not_true, Bool.not_false, true_and, and_true, false_and, and_false, imp_self, implies_true, not_false_eq_true, not_true_eq_false, true_implies, false_implies, Bool.true_eq_false, Bool.false_eq_true, forall_const, Nat.reduceAdd, Nat.reduceSub, Nat.reduceEqDiff, Nat.reduceLeDiff, mulOk_iff, divOk_iff, modOk_iff, powOk_iff, small_iff, isa_int_non, isa_int_bl, isa_int_int, isa_int_str, isa_int_tup, isa_int_lst, isa_int_wls, isa_int_dic, isa_bool_non, isa_bool_bl, isa_bool_int, isa_bool_str, isa_bool_tup, isa_bool_lst, isa_bool_wls, isa_bool_dic, isa_str_non, isa_str_bl, isa_str_int, isa_str_str, isa_str_tup, isa_str_lst, isa_str_wls, isa_str_dic, isa_list_non, isa_list_bl, isa_list_int, isa_list_str, isa_list_tup, isa_list_lst, isa_list_wls, isa_list_dic, isa_tuple_non, isa_tuple_bl, isa_tuple_int, isa_tuple_str, isa_tuple_tup, isa_tuple_lst, isa_tuple_wls, isa_tuple_dic, isa_list_tuple_non, isa_list_tuple_bl, isa_list_tuple_int, isa_list_tuple_str, isa_list_tuple_tup, isa_list_tuple_lst, isa_list_tuple_wls, isa_list_tuple_dic, isa_int_str_non, isa_int_str_bl, isa_int_str_int, isa_int_str_str, isa_int_str_tup, isa_int_str_lst, isa_int_str_wls, isa_int_str_dic, isa_str_int_non, isa_str_int_bl, isa_str_int_int, isa_str_int_str, isa_str_int_tup, isa_str_int_lst, isa_str_int_wls, isa_str_int_dic, isa_tuple_list_non, isa_tuple_list_bl, isa_tuple_list_int, isa_tuple_list_str, isa_tuple_list_tup, isa_tuple_list_lst, isa_tuple_list_wls, isa_tuple_list_dic, dIsN_bl, dNotN_bl, dIsN_int, dNotN_int, dIsN_str, dNotN_str, dIsN_tup, dNotN_tup, dIsN_lst, dNotN_lst, dIsN_wls, dNotN_wls, dIsN_dic, dNotN_dic, dIsN_non, dNotN_non, tru_bl, tru_non, tru_int, tru_lst, tru_wls, tru_tup, int_int, back_val', back_own', back_non]
  refine hK2 _ ?_
  refine ws_seq fun K3 hK3 => ?_
  simp only [Wp_ret, Wp_no, Wp_bnd, Wp_ite, Raw.stay_val, Raw.stay_bor, Wp_m2, Wp_var, Wp_peek, Wp_move, Wp_frz, Raw.frz_own, Raw.frz_val, Raw.frz_lst, Wp_gI, Wp_gD, Wp_g1, Wp_g2I, Raw.dt_val, Raw.dt_own, Raw.dt_bor, Wp_isa, Wp_bool, Wp_tru, Wp_not, Wp_and, Wp_or, Wp_ofB, Wp_if, Wp_andV, Wp_orV, Wp_un, Wp_nil, Wp_cons, Raw.datas_nil, Raw.datas_cons, Raw.vals_nil, Raw.vals_cons, Wp_tup, Wp_lst, Wp_call, Wp_callO, Wp_set, Wp_app, Wp_pop, Wp_rev, Wp_range1, Wp_range2, Wp_err, Wp_erris, Ws_nx, Ws_bk, Ws_ct, Ws_retN, Ws_expr, Ws_ret, Ws_if, Ws_set, Ws_par, Ws_unp, Ws_raise, Ws_raise0, dEq_ii, dNe_ii, dLen_lst, dLen_wls, dLen_tup, ix_lst, ix_wls, ix_tup', enF, gSet, gTupD, gsCons, gsNil, ↓reduceIte, List.getElem?_cons_zero, List.getElem?_cons_succ, List.getElem?_nil, List.set_cons_zero, List.set_cons_succ, List.set_nil, List.length_cons, List.length_nil, List.replicate, List.cons_append, List.nil_append, List.append_nil, List.take, Option.map_some, decide_eq_true_eq, decide_eq_false_iff_not, Bool.not_eq_true', Bool.not_eq_false', Bool.not_not, Bool.not_true, Bool.not_false, true_and, and_true, false_and, and_false, imp_self, implies_true, not_false_eq_true, not_true_eq_false, true_implies, false_implies, Bool.true_eq_false, Bool.false_eq_true, forall_const, Nat.reduceAdd, Nat.reduceSub, Nat.reduceEqDiff, Nat.reduceLeDiff, mulOk_iff, divOk_iff, modOk_iff, powOk_iff, small_iff, isa_int_non, isa_int_bl, isa_int_int, isa_int_str, isa_int_tup, isa_int_lst, isa_int_wls, isa_int_dic, isa_bool_non, isa_bool_bl, isa_bool_int, isa_bool_str, isa_bool_tup, isa_bool_lst, isa_bool_wls, isa_bool_dic, isa_str_non, isa_str_bl, isa_str_int, isa_str_str, isa_str_tup, isa_str_lst, isa_str_wls, isa_str_dic, isa_list_non, isa_list_bl, isa_list_int, isa_list_str, isa_list_tup, isa_list_lst, isa_list_wls, isa_list_dic, isa_tuple_non, isa_tuple_bl, isa_tuple_int, isa_tuple_str, isa_tuple_tup, isa_tuple_lst, isa_tuple_wls, isa_tuple_dic, isa_list_tuple_non, isa_list_tuple_bl, isa_list_tuple_int, isa_list_tuple_str, isa_list_tuple_tup, isa_list_tuple_lst, isa_list_tuple_wls, isa_list_tuple_dic, isa_int_str_non, isa_int_str_bl, isa_int_str_int, isa_int_str_str, isa_int_str_tup, isa_int_str_lst, isa_int_str_wls, isa_int_str_dic, isa_str_int_non, isa_str_int_bl, isa_str_int_int, isa_str_int_str, isa_str_int_tup, isa_str_int_lst, isa_str_int_wls, isa_str_int_dic, isa_tuple_list_non, isa_tuple_list_bl, isa_tuple_list_int, isa_tuple_list_str, isa_tuple_list_tup, isa_tuple_list_lst, isa_tuple_list_wls, isa_tuple_list_dic, dIsN_bl, dNotN_bl, dIsN_int, dNotN_int, dIsN_str, dNotN_str, dIsN_tup, dNotN_tup, dIsN_lst, dNotN_lst, dIsN_wls, dNotN_wls, dIsN_dic, dNotN_dic, dIsN_non, dNotN_non, tru_bl, tru_non, tru_int, tru_lst, tru_wls, tru_tup, int_int, back_val', back_own', back_non]
  refine w_take (by decide) fun x2 ys2 g2 g2' => ?_
  simp only [Wp_ret, Wp_no, Wp_bnd, Wp_ite, Raw.stay_val, Raw.stay_bor, Wp_m2, Wp_var, Wp_peek, Wp_move, Wp_frz, Raw.frz_own, Raw.frz_val, Raw.frz_lst, Wp_gI, Wp_gD, Wp_g1, Wp_g2I, Raw.dt_val, Raw.dt_own, Raw.dt_bor, Wp_isa, Wp_bool, Wp_tru, Wp_not, Wp_and, Wp_or, Wp_ofB, Wp_if, Wp_andV, Wp_orV, Wp_un, Wp_nil, Wp_cons, Raw.datas_nil, Raw.datas_cons, Raw.vals_nil, Raw.vals_cons, Wp_tup, Wp_lst, Wp_call, Wp_callO, Wp_set, Wp_app, Wp_pop, Wp_rev, Wp_range1, Wp_range2, Wp_err, Wp_erris, Ws_nx, Ws_bk, Ws_ct, Ws_retN, Ws_expr, Ws_ret, Ws_if, Ws_set, Ws_par, Ws_unp, Ws_raise, Ws_raise0, dEq_ii, dNe_ii, dLen_lst, dLen_wls, dLen_tup, ix_lst, ix_wls, ix_tup', enF, gSet, gTupD, gsCons, gsNil, ↓reduceIte, List.getElem?_cons_zero, List.getElem?_cons_succ, List.getElem?_nil, List.set_cons_zero, List.set_cons_succ, List.set_nil, List.length_cons, List.length_nil, List.replicate, List.cons_append, List.nil_append, List.append_nil, List.take, Option.map_some, decide_eq_true_eq, decide_eq_false_iff_not, Bool.not_eq_true', Bool.not_eq_false', Bool.not_not, Bool.not_true, Bool.not_false, true_and, and_true, false_and, and_false, imp_self, implies_true, not_false_eq_true, not_true_eq_false, true_implies, false_implies, Bool.true_eq_false, Bool.false_eq_true, forall_const, Nat.reduceAdd, Nat.reduceSub, Nat.reduceEqDiff, Nat.reduceLeDiff, mulOk_iff, divOk_iff, modOk_iff, powOk_iff, small_iff, isa_int_non, isa_int_bl, isa_int_int, isa_int_str, isa_int_tup, isa_int_lst, isa_int_wls, isa_int_dic, isa_bool_non, isa_bool_bl, isa_bool_int, isa_bool_str, isa_bool_tup, isa_bool_lst, isa_bool_wls, isa_bool_dic, isa_str_non, isa_str_bl, isa_str_int, isa_str_str, isa_str_tup, isa_str_lst, isa_str_wls, isa_str_dic, isa_list_non, isa_list_bl, isa_list_int, isa_list_str, isa_list_tup, isa_list_lst, isa_list_wls, isa_list_dic, isa_tuple_non, isa_tuple_bl, isa_tuple_int, isa_tuple_str, isa_tuple_tup, isa_tuple_lst, isa_tuple_wls, isa_tuple_dic, isa_list_tuple_non, isa_list_tuple_bl, isa_list_tuple_int, isa_list_tuple_str, isa_list_tuple_tup, isa_list_tuple_lst, isa_list_tuple_wls, isa_list_tuple_dic, isa_int_str_non, isa_int_str_bl, isa_int_str_int, isa_int_str_str, isa_int_str_tup, isa_int_str_lst, isa_int_str_wls, isa_int_str_dic, isa_str_int_non, isa_str_int_bl, isa_str_int_int, isa_str_int_str, isa_str_int_tup, isa_str_int_lst, isa_str_int_wls, isa_str_int_dic, isa_tuple_list_non, isa_tuple_list_bl, isa_tuple_list_int, isa_tuple_list_str, isa_tuple_list_tup, isa_tuple_list_lst, isa_tuple_list_wls, isa_tuple_list_dic, dIsN_bl, dNotN_bl, dIsN_int, dNotN_int, dIsN_str, dNotN_str, dIsN_tup, dNotN_tup, dIsN_lst, dNotN_lst, dIsN_wls, dNotN_wls, dIsN_dic, dNotN_dic, dIsN_non, dNotN_non, tru_bl, tru_non, tru_int, tru_lst, tru_wls, tru_tup, int_int, back_val', back_own', back_non]
  have key : ∀ b : Int, 1 ≤ b → b ≤ 1000040 → K3 [.val (.wls (ns.map .int)), .own (.lst (ys2.map .int)), .val (.int b), .non, .non, .non, .non, .non, .non, .non] := by
    intro b hb hb2
    refine hK3 _ ?_
    refine ws_seq fun K4 hK4 => ?_
    simp only [Wp_ret, Wp_no, Wp_bnd, Wp_ite, Raw.stay_val, Raw.stay_bor, Wp_m2, Wp_var, Wp_peek, Wp_move, Wp_frz, Raw.frz_own, Raw.frz_val, Raw.frz_lst, Wp_gI, Wp_gD, Wp_g1, Wp_g2I, Raw.dt_val, Raw.dt_own, Raw.dt_bor, Wp_isa, Wp_bool, Wp_tru, Wp_not, Wp_and, Wp_or, Wp_ofB, Wp_if, Wp_andV, Wp_orV, Wp_un, Wp_nil, Wp_cons, Raw.datas_nil, Raw.datas_cons, Raw.vals_nil, Raw.vals_cons, Wp_tup, Wp_lst, Wp_call, Wp_callO, Wp_set, Wp_app, Wp_pop, Wp_rev, Wp_range1, Wp_range2, Wp_err, Wp_erris, Ws_nx, Ws_bk, Ws_ct, Ws_retN, Ws_expr, Ws_ret, Ws_if, Ws_set, Ws_par, Ws_unp, Ws_raise, Ws_raise0, dEq_ii, dNe_ii, dLen_lst, dLen_wls, dLen_tup, ix_lst, ix_wls, ix_tup', enF, gSet, gTupD, gsCons, gsNil, ↓reduceIte, List.getElem?_cons_zero, List.getElem?_cons_succ, List.getElem?_nil, List.set_cons_zero, List.set_cons_succ, List.set_nil, List.length_cons, List.length_nil, List.replicate, List.cons_append, List.nil_append, List.append_nil, List.take, Option.map_some, decide_eq_true_eq, decide_eq_false_iff_not, Bool.not_eq_true', Bool.not_eq_false', Bool.not_not, Bool.not_true, Bool.not_false, true_and, and_true, false_and, and_false, imp_self, implies_true, not_false_eq_true, not_true_eq_false, true_implies, false_implies, Bool.true_eq_false, Bool.false_eq_true, forall_const, Nat.reduceAdd, Nat.reduceSub, Nat.reduceEqDiff, Nat.reduceLeDiff, mulOk_iff, divOk_iff, modOk_iff, powOk_iff, small_iff, isa_int_non, isa_int_bl, isa_int_int, isa_int_str, isa_int_tup, isa_int_lst, isa_int_wls, isa_int_dic, isa_bool_non, isa_bool_bl, isa_bool_int, isa_bool_str, isa_bool_tup, isa_bool_lst, isa_bool_wls, isa_bool_dic, isa_str_non, isa_str_bl, isa_str_int, isa_str_str, isa_str_tup, isa_str_lst, isa_str_wls, isa_str_dic, isa_list_non, isa_list_bl, isa_list_int, isa_list_str, isa_list_tup, isa_list_lst, isa_list_wls, isa_list_dic, isa_tuple_non, isa_tuple_bl, isa_tuple_int, isa_tuple_str, isa_tuple_tup, isa_tuple_lst, isa_tuple_wls, isa_tuple_dic, isa_list_tuple_non, isa_list_tuple_bl, isa_list_tuple_int, isa_list_tuple_str, isa_list_tuple_tup, isa_list_tuple_lst, isa_list_tuple_wls, isa_list_tuple_dic, isa_int_str_non, isa_int_str_bl, isa_int_str_int, isa_int_str_str, isa_int_str_tup, isa_int_str_lst, isa_int_str_wls, isa_int_str_dic, isa_str_int_non, isa_str_int_bl, isa_str_int_int, isa_str_int_str, isa_str_int_tup, isa_str_int_lst, isa_str_int_wls, isa_str_int_dic, isa_tuple_list_non, isa_tuple_list_bl, isa_tuple_list_int, isa_tuple_list_str, isa_tuple_list_tup, isa_tuple_list_lst, isa_tuple_list_wls, isa_tuple_list_dic, dIsN_bl, dNotN_bl, dIsN_int, dNotN_int, dIsN_str, dNotN_str, dIsN_tup, dNotN_tup, dIsN_lst, dNotN_lst, dIsN_wls, dNotN_wls, dIsN_dic, dNotN_dic, dIsN_non, dNotN_non, tru_bl, tru_non, tru_int, tru_lst, tru_wls, tru_tup, int_int, back_val', back_own', back_non]
    refine w_take (by decide) fun x3 ys3 g3 g3' => ?_
    simp only [Wp_ret, Wp_no, Wp_bnd, Wp_ite, Raw.stay_val, Raw.stay_bor, Wp_m2, Wp_var, Wp_peek, Wp_move, Wp_frz, Raw.frz_own, Raw.frz_val, Raw.frz_lst, Wp_gI, Wp_gD, Wp_g1, Wp_g2I, Raw.dt_val, Raw.dt_own, Raw.dt_bor, Wp_isa, Wp_bool, Wp_tru, Wp_not, Wp_and, Wp_or, Wp_ofB, Wp_if, Wp_andV, Wp_orV, Wp_un, Wp_nil, Wp_cons, Raw.datas_nil, Raw.datas_cons, Raw.vals_nil, Raw.vals_cons, Wp_tup, Wp_lst, Wp_call, Wp_callO, Wp_set, Wp_app, Wp_pop, Wp_rev, Wp_range1, Wp_range2, Wp_err, Wp_erris, Ws_nx, Ws_bk, Ws_ct, Ws_retN, Ws_expr, Ws_ret, Ws_if, Ws_set, Ws_par, Ws_unp, Ws_raise, Ws_raise0, dEq_ii, dNe_ii, dLen_lst, dLen_wls, dLen_tup, ix_lst, ix_wls, ix_tup', enF, gSet, gTupD, gsCons, gsNil, ↓reduceIte, List.getElem?_cons_zero, List.getElem?_cons_succ, List.getElem?_nil, List.set_cons_zero, List.set_cons_succ, List.set_nil, List.length_cons, List.length_nil, List.replicate, List.cons_append, List.nil_append, List.append_nil, List.take, Option.map_some, decide_eq_true_eq, decide_eq_false_iff_not, Bool.not_eq_true', Bool.not_eq_false', Bool.not_not, Bool.not_true, Bool.not_false, true_and, and_true, false_and, and_false, imp_self, implies_true, not_false_eq_true, not_true_eq_false, true_implies, false_implies, Bool.true_eq_false, Bool.false_eq_true, forall_const, Nat.reduceAdd, Nat.reduceSub, Nat.reduceEqDiff, Nat.reduceLeDiff, mulOk_iff, divOk_iff, modOk_iff, powOk_iff, small_iff, isa_int_non, isa_int_bl, isa_int_int, isa_int_str, isa_int_tup, isa_int_lst, isa_int_wls, isa_int_dic, isa_bool_non, isa_bool_bl, isa_bool_int, isa_bool_str, isa_bool_tup, isa_bool_lst, isa_bool_wls, isa_bool_dic, isa_str_non, isa_str_bl, isa_str_int, isa_str_str, isa_str_tup, isa_str_lst, isa_str_wls, isa_str_dic, isa_list_non, isa_list_bl, isa_list_int, isa_list_str, isa_list_tup, isa_list_lst, isa_list_wls, isa_list_dic, isa_tuple_non, isa_tuple_bl, isa_tuple_int, isa_tuple_str, isa_tuple_tup, isa_tuple_lst, isa_tuple_wls, isa_tuple_dic, isa_list_tuple_non, isa_list_tuple_bl, isa_list_tuple_int, isa_list_tuple_str, isa_list_tuple_tup, isa_list_tuple_lst, isa_list_tuple_wls, isa_list_tuple_dic, isa_int_str_non, isa_int_str_bl, isa_int_str_int, isa_int_str_str, isa_int_str_tup, isa_int_str_lst, isa_int_str_wls, isa_int_str_dic, isa_str_int_non, isa_str_int_bl, isa_str_int_int, isa_str_int_str, isa_str_int_tup, isa_str_int_lst, isa_str_int_wls, isa_str_int_dic, isa_tuple_list_non, isa_tuple_list_bl, isa_tuple_list_int, isa_tuple_list_str, isa_tuple_list_tup, isa_tuple_list_lst, isa_tuple_list_wls, isa_tuple_list_dic, dIsN_bl, dNotN_bl, dIsN_int, dNotN_int, dIsN_str, dNotN_str, dIsN_tup, dNotN_tup, dIsN_lst, dNotN_lst, dIsN_wls, dNotN_wls, dIsN_dic, dNotN_dic, dIsN_non, dNotN_non, tru_bl, tru_non, tru_int, tru_lst, tru_wls, tru_tup, int_int, back_val', back_own', back_non]
    refine hK4 _ ?_
    refine ws_seq fun K5 hK5 => ?_
    simp only [Wp_ret, Wp_no, Wp_bnd, Wp_ite, Raw.stay_val, Raw.stay_bor, Wp_m2, Wp_var, Wp_peek, Wp_move, Wp_frz, Raw.frz_own, Raw.frz_val, Raw.frz_lst, Wp_gI, Wp_gD, Wp_g1, Wp_g2I, Raw.dt_val, Raw.dt_own, Raw.dt_bor, Wp_isa, Wp_bool, Wp_tru, Wp_not, Wp_and, Wp_or, Wp_ofB, Wp_if, Wp_andV, Wp_orV, Wp_un, Wp_nil, Wp_cons, Raw.datas_nil, Raw.datas_cons, Raw.vals_nil, Raw.vals_cons, Wp_tup, Wp_lst, Wp_call, Wp_callO, Wp_set, Wp_app, Wp_pop, Wp_rev, Wp_range1, Wp_range2, Wp_err, Wp_erris, Ws_nx, Ws_bk, Ws_ct, Ws_retN, Ws_expr, Ws_ret, Ws_if, Ws_set, Ws_par, Ws_unp, Ws_raise, Ws_raise0, dEq_ii, dNe_ii, dLen_lst, dLen_wls, dLen_tup, ix_lst, ix_wls, ix_tup', enF, gSet, gTupD, gsCons, gsNil, ↓reduceIte, List.getElem?_cons_zero, List.getElem?_cons_succ, List.getElem?_nil, List.set_cons_zero, List.set_cons_succ, List.set_nil, List.length_cons, List.length_nil, List.replicate, List.cons_append, List.nil_append, List.append_nil, List.take, Option.map_some, decide_eq_true_eq, decide_eq_false_iff_not, Bool.not_eq_true', Bool.not_eq_false', Bool.not_not, Bool.not_true, Bool.not_false, true_and, and_true, false_and, and_false, imp_self, implies_true, not_false_eq_true, not_true_eq_false, true_implies, false_implies, Bool.true_eq_false, Bool.false_eq_true, forall_const, Nat.reduceAdd, Nat.reduceSub, Nat.reduceEqDiff, Nat.reduceLeDiff, mulOk_iff, divOk_iff, modOk_iff, powOk_iff, small_iff, isa_int_non, isa_int_bl, isa_int_int, isa_int_str, isa_int_tup, isa_int_lst, isa_int_wls, isa_int_dic, isa_bool_non, isa_bool_bl, isa_bool_int, isa_bool_str, isa_bool_tup, isa_bool_lst, isa_bool_wls, isa_bool_dic, isa_str_non, isa_str_bl, isa_str_int, isa_str_str, isa_str_tup, isa_str_lst, isa_str_wls, isa_str_dic, isa_list_non, isa_list_bl, isa_list_int, isa_list_str, isa_list_tup, isa_list_lst, isa_list_wls, isa_list_dic, isa_tuple_non, isa_tuple_bl, isa_tuple_int, isa_tuple_str, isa_tuple_tup, isa_tuple_lst, isa_tuple_wls, isa_tuple_dic, isa_list_tuple_non, isa_list_tuple_bl, isa_list_tuple_int, isa_list_tuple_str, isa_list_tuple_tup, isa_list_tuple_lst, isa_list_tuple_wls, isa_list_tuple_dic, isa_int_str_non, isa_int_str_bl, isa_int_str_int, isa_int_str_str, isa_int_str_tup, isa_int_str_lst, isa_int_str_wls, isa_int_str_dic, isa_str_int_non, isa_str_int_bl, isa_str_int_int, isa_str_int_str, isa_str_int_tup, isa_str_int_lst, isa_str_int_wls, isa_str_int_dic, isa_tuple_list_non, isa_tuple_list_bl, isa_tuple_list_int, isa_tuple_list_str, isa_tuple_list_tup, isa_tuple_list_lst, isa_tuple_list_wls, isa_tuple_list_dic, dIsN_bl, dNotN_bl, dIsN_int, dNotN_int, dIsN_str, dNotN_str, dIsN_tup, dNotN_tup, dIsN_lst, dNotN_lst, dIsN_wls, dNotN_wls, dIsN_dic, dNotN_dic, dIsN_non, dNotN_non, tru_bl, tru_non, tru_int, tru_lst, tru_wls, tru_tup, int_int, back_val', back_own', back_non]
    refine w_take (by decide) fun x4 ys4 g4 g4' => ?_
    simp only [Wp_ret, Wp_no, Wp_bnd, Wp_ite, Raw.stay_val, Raw.stay_bor, Wp_m2, Wp_var, Wp_peek, Wp_move, Wp_frz, Raw.frz_own, Raw.frz_val, Raw.frz_lst, Wp_gI, Wp_gD, Wp_g1, Wp_g2I, Raw.dt_val, Raw.dt_own, Raw.dt_bor, Wp_isa, Wp_bool, Wp_tru, Wp_not, Wp_and, Wp_or, Wp_ofB, Wp_if, Wp_andV, Wp_orV, Wp_un, Wp_nil, Wp_cons, Raw.datas_nil, Raw.datas_cons, Raw.vals_nil, Raw.vals_cons, Wp_tup, Wp_lst, Wp_call, Wp_callO, Wp_set, Wp_app, Wp_pop, Wp_rev, Wp_range1, Wp_range2, Wp_err, Wp_erris, Ws_nx, Ws_bk, Ws_ct, Ws_retN, Ws_expr, Ws_ret, Ws_if, Ws_set, Ws_par, Ws_unp, Ws_raise, Ws_raise0, dEq_ii, dNe_ii, dLen_lst, dLen_wls, dLen_tup, ix_lst, ix_wls, ix_tup', enF, gSet, gTupD, gsCons, gsNil, ↓reduceIte, List.getElem?_cons_zero, List.getElem?_cons_succ, List.getElem?_nil, List.set_cons_zero, List.set_cons_succ, List.set_nil, List.length_cons, List.length_nil, List.replicate, List.cons_append, List.nil_append, List.append_nil, List.take, Option.map_some, decide_eq_true_eq, decide_eq_false_iff_not, Bool.not_eq_true', Bool.not_eq_false', Bool.not_not, Bool.not_true, Bool.not_false, true_and, and_true, false_and, and_false, imp_self, implies_true, not_false_eq_true, not_true_eq_false, true_implies, false_implies, Bool.true_eq_false, Bool.false_eq_true, forall_const, Nat.reduceAdd, Nat.reduceSub, Nat.reduceEqDiff, Nat.reduceLeDiff, mulOk_iff, divOk_iff, modOk_iff, powOk_iff, small_iff, isa_int_non, isa_int_bl, isa_int_int, isa_int_str, isa_int_tup, isa_int_lst, isa_int_wls, isa_int_dic, isa_bool_non, isa_bool_bl, isa_bool_int, isa_bool_str, isa_bool_tup, isa_bool_lst, isa_bool_wls, isa_bool_dic, isa_str_non, isa_str_bl, isa_str_int, isa_str_str, isa_str_tup, isa_str_lst, isa_str_wls, isa_str_dic, isa_list_non, isa_list_bl, isa_list_int, isa_list_str, isa_list_tup, isa_list_lst, isa_list_wls, isa_list_dic, isa_tuple_non, isa_tuple_bl, isa_tuple_int, isa_tuple_str, isa_tuple_tup, isa_tuple_lst, isa_tuple_wls, isa_tuple_dic, isa_list_tuple_non, isa_list_tuple_bl, isa_list_tuple_int, isa_list_tuple_str, isa_list_tuple_tup, isa_list_tuple_lst, isa_list_tuple_wls, isa_list_tuple_dic, isa_int_str_non, isa_int_str_bl, isa_int_str_int, isa_int_str_str, isa_int_str_tup, isa_int_str_lst, isa_int_str_wls, isa_int_str_dic, isa_str_int_non, isa_str_int_bl, isa_str_int_int, isa_str_int_str, isa_str_int_tup, isa_str_int_lst, isa_str_int_wls, isa_str_int_dic, isa_tuple_list_non, isa_tuple_list_bl, isa_tuple_list_int, isa_tuple_list_str, isa_tuple_list_tup, isa_tuple_list_lst, isa_tuple_list_wls, isa_tuple_list_dic, dIsN_bl, dNotN_bl, dIsN_int, dNotN_int, dIsN_str, dNotN_str, dIsN_tup, dNotN_tup, dIsN_lst, dNotN_lst, dIsN_wls, dNotN_wls, dIsN_dic, dNotN_dic, dIsN_non, dNotN_non, tru_bl, tru_non, tru_int, tru_lst, tru_wls, tru_tup, int_int, back_val', back_own', back_non]
    refine hK5 _ ?_
    refine ws_seq fun K6 hK6 => ?_
    simp only [Wp_ret, Wp_no, Wp_bnd, Wp_ite, Raw.stay_val, Raw.stay_bor, Wp_m2, Wp_var, Wp_peek, Wp_move, Wp_frz, Raw.frz_own, Raw.frz_val, Raw.frz_lst, Wp_gI, Wp_gD, Wp_g1, Wp_g2I, Raw.dt_val, Raw.dt_own, Raw.dt_bor, Wp_isa, Wp_bool, Wp_tru, Wp_not, Wp_and, Wp_or, Wp_ofB, Wp_if, Wp_andV, Wp_orV, Wp_un, Wp_nil, Wp_cons, Raw.datas_nil, Raw.datas_cons, Raw.vals_nil, Raw.vals_cons, Wp_tup, Wp_lst, Wp_call, Wp_callO, Wp_set, Wp_app, Wp_pop, Wp_rev, Wp_range1, Wp_range2, Wp_err, Wp_erris, Ws_nx, Ws_bk, Ws_ct, Ws_retN, Ws_expr, Ws_ret, Ws_if, Ws_set, Ws_par, Ws_unp, Ws_raise, Ws_raise0, dEq_ii, dNe_ii, dLen_lst, dLen_wls, dLen_tup, ix_lst, ix_wls, ix_tup', enF, gSet, gTupD, gsCons, gsNil, ↓reduceIte, List.getElem?_cons_zero, List.getElem?_cons_succ, List.getElem?_nil, List.set_cons_zero, List.set_cons_succ, List.set_nil, List.length_cons, List.length_nil, List.replicate, List.cons_append, List.nil_append, List.append_nil, List.take, Option.map_some, decide_eq_true_eq, decide_eq_false_iff_not, Bool.not_eq_true', Bool.not_eq_false', Bool.not_not, Bool.not_true, Bool.not_false, true_and, and_true, false_and, and_false, imp_self, implies_true, not_false_eq_true, not_true_eq_false, true_implies, false_implies, Bool.true_eq_false, Bool.false_eq_true, forall_const, Nat.reduceAdd, Nat.reduceSub, Nat.reduceEqDiff, Nat.reduceLeDiff, mulOk_iff, divOk_iff, modOk_iff, powOk_iff, small_iff, isa_int_non, isa_int_bl, isa_int_int, isa_int_str, isa_int_tup, isa_int_lst, isa_int_wls, isa_int_dic, isa_bool_non, isa_bool_bl, isa_bool_int, isa_bool_str, isa_bool_tup, isa_bool_lst, isa_bool_wls, isa_bool_dic, isa_str_non, isa_str_bl, isa_str_int, isa_str_str, isa_str_tup, isa_str_lst, isa_str_wls, isa_str_dic, isa_list_non, isa_list_bl, isa_list_int, isa_list_str, isa_list_tup, isa_list_lst, isa_list_wls, isa_list_dic, isa_tuple_non, isa_tuple_bl, isa_tuple_int, isa_tuple_str, isa_tuple_tup, isa_tuple_lst, isa_tuple_wls, isa_tuple_dic, isa_list_tuple_non, isa_list_tuple_bl, isa_list_tuple_int, isa_list_tuple_str, isa_list_tuple_tup, isa_list_tuple_lst, isa_list_tuple_wls, isa_list_tuple_dic, isa_int_str_non, isa_int_str_bl, isa_int_str_int, isa_int_str_str, isa_int_str_tup, isa_int_str_lst, isa_int_str_wls, isa_int_str_dic, isa_str_int_non, isa_str_int_bl, isa_str_int_int, isa_str_int_str, isa_str_int_tup, isa_str_int_lst, isa_str_int_wls, isa_str_int_dic, isa_tuple_list_non, isa_tuple_list_bl, isa_tuple_list_int, isa_tuple_list_str, isa_tuple_list_tup, isa_tuple_list_lst, isa_tuple_list_wls, isa_tuple_list_dic, dIsN_bl, dNotN_bl, dIsN_int, dNotN_int, dIsN_str, dNotN_str, dIsN_tup, dNotN_tup, dIsN_lst, dNotN_lst, dIsN_wls, dNotN_wls, dIsN_dic, dNotN_dic, dIsN_non, dNotN_non, tru_bl, tru_non, tru_int, tru_lst, tru_wls, tru_tup, int_int, back_val', back_own', back_non]
    obtain ⟨f, hf⟩ : ∃ f : Nat, (30 + x4 : Int) = f := ⟨(30 + x4).toNat, by omega⟩
    rw [hf, show (f : Int) + 1 = (f + 1 : Nat) by omega]
    refine w_starts (by omega) fun _ => ?_
    simp only [Wp_ret, Wp_no, Wp_bnd, Wp_ite, Raw.stay_val, Raw.stay_bor, Wp_m2, Wp_var, Wp_peek, Wp_move, Wp_frz, Raw.frz_own, Raw.frz_val, Raw.frz_lst, Wp_gI, Wp_gD, Wp_g1, Wp_g2I, Raw.dt_val, Raw.dt_own, Raw.dt_bor, Wp_isa, Wp_bool, Wp_tru, Wp_not, Wp_and, Wp_or, Wp_ofB, Wp_if, Wp_andV, Wp_orV, Wp_un, Wp_nil, Wp_cons, Raw.datas_nil, Raw.datas_cons, Raw.vals_nil, Raw.vals_cons, Wp_tup, Wp_lst, Wp_call, Wp_callO, Wp_set, Wp_app, Wp_pop, Wp_rev, Wp_range1, Wp_range2, Wp_err, Wp_erris, Ws_nx, Ws_bk, Ws_ct, Ws_retN, Ws_expr, Ws_ret, Ws_if, Ws_set, Ws_par, Ws_unp, Ws_raise, Ws_raise0, dEq_ii, dNe_ii, dLen_lst, dLen_wls, dLen_tup, ix_lst, ix_wls, ix_tup', enF, gSet, gTupD, gsCons, gsNil, ↓reduceIte, List.getElem?_cons_zero, List.getElem?_cons_succ, List.getElem?_nil, List.set_cons_zero, List.set_cons_succ, List.set_nil, List.length_cons, List.length_nil, List.replicate, List.cons_append, List.nil_append, List.append_nil, List.take, Option.map_some, decide_eq_true_eq, decide_eq_false_iff_not, Bool.not_eq_true', Bool.not_eq_false', Bool.not_not, Bool.not_true, Bool.not_false, true_and, and_true, false_and, and_false, imp_self, implies_true, not_false_eq_true, not_true_eq_false, true_implies, false_implies, Bool.true_eq_false, Bool.false_eq_true, forall_const, Nat.reduceAdd, Nat.reduceSub, Nat.reduceEqDiff, Nat.reduceLeDiff, mulOk_iff, divOk_iff, modOk_iff, powOk_iff, small_iff, isa_int_non, isa_int_bl, isa_int_int, isa_int_str, isa_int_tup, isa_int_lst, isa_int_wls, isa_int_dic, isa_bool_non, isa_bool_bl, isa_bool_int, isa_bool_str, isa_bool_tup, isa_bool_lst, isa_bool_wls, isa_bool_dic, isa_str_non, isa_str_bl, isa_str_int, isa_str_str, isa_str_tup, isa_str_lst, isa_str_wls, isa_str_dic, isa_list_non, isa_list_bl, isa_list_int, isa_list_str, isa_list_tup, isa_list_lst, isa_list_wls, isa_list_dic, isa_tuple_non, isa_tuple_bl, isa_tuple_int, isa_tuple_str, isa_tuple_tup, isa_tuple_lst, isa_tuple_wls, isa_tuple_dic, isa_list_tuple_non, isa_list_tuple_bl, isa_list_tuple_int, isa_list_tuple_str, isa_list_tuple_tup, isa_list_tuple_lst, isa_list_tuple_wls, isa_list_tuple_dic, isa_int_str_non, isa_int_str_bl, isa_int_str_int, isa_int_str_str, isa_int_str_tup, isa_int_str_lst, isa_int_str_wls, isa_int_str_dic, isa_str_int_non, isa_str_int_bl, isa_str_int_int, isa_str_int_str, isa_str_int_tup, isa_str_int_lst, isa_str_int_wls, isa_str_int_dic, isa_tuple_list_non, isa_tuple_list_bl, isa_tuple_list_int, isa_tuple_list_str, isa_tuple_list_tup, isa_tuple_list_lst, isa_tuple_list_wls, isa_tuple_list_dic, dIsN_bl, dNotN_bl, dIsN_int, dNotN_int, dIsN_str, dNotN_str, dIsN_tup, dNotN_tup, dIsN_lst, dNotN_lst, dIsN_wls, dNotN_wls, dIsN_dic, dNotN_dic, dIsN_non, dNotN_non, tru_bl, tru_non, tru_int, tru_lst, tru_wls, tru_tup, int_int, back_val', back_own', back_non]
    refine hK6 _ ?_
    have bnd : ∀ v : Int, 0 ≤ v → v ≤ 400 → vs b v ≤ 1000040 * 400 + 80000 := by
      intro v h0 h1
      unfold vs
      rw [fdiv_pos (by decide)]
      have e1 : b * v ≤ 1000040 * 400 := by
        refine Int.le_trans (Int.mul_le_mul_of_nonneg_right hb2 h0) ?_
        omega
      have e2 : v * (v - 1) ≤ 400 * 399 := by
        by_cases hv : v = 0
        · subst hv; decide
        · exact Int.mul_le_mul h1 (by omega) (by omega) (by decide)
      omega
    have low : (150 : Int) < vs b (f + 2 : Nat) := by
      have := vs_mono hb (show (0 : Int) ≤ 32 by decide) (show (32 : Int) < (f + 2 : Nat) + 1 by omega)
      have e : vs b 32 = b * 32 + 496 := by unfold vs; rfl
      have e2 := vs_mono hb (show (0 : Int) ≤ 31 by decide) (show (31 : Int) < (f + 2 : Nat) by omega)
      have e3 : vs b 31 = b * 31 + 465 := by unfold vs; rfl
      omega
    refine ws_seq fun K7 hK7 => ?_
    refine ws_for ?_
    simp only [Wp_ret, Wp_no, Wp_bnd, Wp_ite, Raw.stay_val, Raw.stay_bor, Wp_m2, Wp_var, Wp_peek, Wp_move, Wp_frz, Raw.frz_own, Raw.frz_val, Raw.frz_lst, Wp_gI, Wp_gD, Wp_g1, Wp_g2I, Raw.dt_val, Raw.dt_own, Raw.dt_bor, Wp_isa, Wp_bool, Wp_tru, Wp_not, Wp_and, Wp_or, Wp_ofB, Wp_if, Wp_andV, Wp_orV, Wp_un, Wp_nil, Wp_cons, Raw.datas_nil, Raw.datas_cons, Raw.vals_nil, Raw.vals_cons, Wp_tup, Wp_lst, Wp_call, Wp_callO, Wp_set, Wp_app, Wp_pop, Wp_rev, Wp_range1, Wp_range2, Wp_err, Wp_erris, Ws_nx, Ws_bk, Ws_ct, Ws_retN, Ws_expr, Ws_ret, Ws_if, Ws_set, Ws_par, Ws_unp, Ws_raise, Ws_raise0, dEq_ii, dNe_ii, dLen_lst, dLen_wls, dLen_tup, ix_lst, ix_wls, ix_tup', enF, gSet, gTupD, gsCons, gsNil, ↓reduceIte, List.getElem?_cons_zero, List.getElem?_cons_succ, List.getElem?_nil, List.set_cons_zero, List.set_cons_succ, List.set_nil, List.length_cons, List.length_nil, List.replicate, List.cons_append, List.nil_append, List.append_nil, List.take, Option.map_some, decide_eq_true_eq, decide_eq_false_iff_not, Bool.not_eq_true', Bool.not_eq_false', Bool.not_not, Bool.not_true, Bool.not_false, true_and, and_true, false_and, and_false, imp_self, implies_true, not_false_eq_true, not_true_eq_false, true_implies, false_implies, Bool.true_eq_false, Bool.false_eq_true, forall_const, Nat.reduceAdd, Nat.reduceSub, Nat.reduceEqDiff, Nat.reduceLeDiff, mulOk_iff, divOk_iff, modOk_iff, powOk_iff, small_iff, isa_int_non, isa_int_bl, isa_int_int, isa_int_str, isa_int_tup, isa_int_lst, isa_int_wls, isa_int_dic, isa_bool_non, isa_bool_bl, isa_bool_int, isa_bool_str, isa_bool_tup, isa_bool_lst, isa_bool_wls, isa_bool_dic, isa_str_non, isa_str_bl, isa_str_int, isa_str_str, isa_str_tup, isa_str_lst, isa_str_wls, isa_str_dic, isa_list_non, isa_list_bl, isa_list_int, isa_list_str, isa_list_tup, isa_list_lst, isa_list_wls, isa_list_dic, isa_tuple_non, isa_tuple_bl, isa_tuple_int, isa_tuple_str, isa_tuple_tup, isa_tuple_lst, isa_tuple_wls, isa_tuple_dic, isa_list_tuple_non, isa_list_tuple_bl, isa_list_tuple_int, isa_list_tuple_str, isa_list_tuple_tup, isa_list_tuple_lst, isa_list_tuple_wls, isa_list_tuple_dic, isa_int_str_non, isa_int_str_bl, isa_int_str_int, isa_int_str_str, isa_int_str_tup, isa_int_str_lst, isa_int_str_wls, isa_int_str_dic, isa_str_int_non, isa_str_int_bl, isa_str_int_int, isa_str_int_str, isa_str_int_tup, isa_str_int_lst, isa_str_int_wls, isa_str_int_dic, isa_tuple_list_non, isa_tuple_list_bl, isa_tuple_list_int, isa_tuple_list_str, isa_tuple_list_tup, isa_tuple_list_lst, isa_tuple_list_wls, isa_tuple_list_dic, dIsN_bl, dNotN_bl, dIsN_int, dNotN_int, dIsN_str, dNotN_str, dIsN_tup, dNotN_tup, dIsN_lst, dNotN_lst, dIsN_wls, dNotN_wls, dIsN_dic, dNotN_dic, dIsN_non, dNotN_non, tru_bl, tru_non, tru_int, tru_lst, tru_wls, tru_tup, int_int, back_val', back_own', back_non, sts_len]
    refine ⟨by omega, ?_⟩
    have hx3 : (1 : Int) + x3 ≠ 0 := by omega
    refine ws_forR (fun i ρ => ∃ s5 w t, (s5 = .own (.lst (sts b (f + 2))) ∨ s5 = .val (.lst (sts b (f + 2)))) ∧ ρ = [.val (.wls (ns.map .int)), .own (.lst (ys4.map .int)), .val (.int b), .val (.int (1 + x3)), .val (.int f), s5, w, .non, .non, t]) ⟨_, _, _, .inl rfl, rfl⟩ (by omega) ?_ ?_
    · rintro i ρ p0 p1 ⟨s5, w, t, hs, rfl⟩
      have at_ : L2.atI (sts b (f + 2)) i = some (.int (vs b i)) := sts_at p0 (by omega)
      have b1 := bnd i p0 (by omega)
      have b0 := vs_le hb p0
      have hm := vs_mono hb p0 (show i < (f + 2 : Nat) by omega)
      have hsc := vs_succ b i
      rcases hs with rfl | rfl
      all_goals
        simp only [Wp_ret, Wp_no, Wp_bnd, Wp_ite, Raw.stay_val, Raw.stay_bor, Wp_m2, Wp_var, Wp_peek, Wp_move, Wp_frz, Raw.frz_own, Raw.frz_val, Raw.frz_lst, Wp_gI, Wp_gD, Wp_g1, Wp_g2I, Raw.dt_val, Raw.dt_own, Raw.dt_bor, Wp_isa, Wp_bool, Wp_tru, Wp_not, Wp_and, Wp_or, Wp_ofB, Wp_if, Wp_andV, Wp_orV, Wp_un, Wp_nil, Wp_cons, Raw.datas_nil, Raw.datas_cons, Raw.vals_nil, Raw.vals_cons, Wp_tup, Wp_lst, Wp_call, Wp_callO, Wp_set, Wp_app, Wp_pop, Wp_rev, Wp_range1, Wp_range2, Wp_err, Wp_erris, Ws_nx, Ws_bk, Ws_ct, Ws_retN, Ws_expr, Ws_ret, Ws_if, Ws_set, Ws_par, Ws_unp, Ws_raise, Ws_raise0, dEq_ii, dNe_ii, dLen_lst, dLen_wls, dLen_tup, ix_lst, ix_wls, ix_tup', enF, gSet, gTupD, gsCons, gsNil, ↓reduceIte, List.getElem?_cons_zero, List.getElem?_cons_succ, List.getElem?_nil, List.set_cons_zero, List.set_cons_succ, List.set_nil, List.length_cons, List.length_nil, List.replicate, List.cons_append, List.nil_append, List.append_nil, List.take, Option.map_some, decide_eq_true_eq, decide_eq_false_iff_not, Bool.not_eq_true', Bool.not_eq_false', Bool.not_not, Bool.not_true, Bool.not_false, true_and, and_true, false_and, and_false, imp_self, implies_true, not_false_eq_true, not_true_eq_false, true_implies, false_implies, Bool.true_eq_false, Bool.false_eq_true, forall_const, Nat.reduceAdd, Nat.reduceSub, Nat.reduceEqDiff, Nat.reduceLeDiff, mulOk_iff, divOk_iff, modOk_iff, powOk_iff, small_iff, isa_int_non, isa_int_bl, isa_int_int, isa_int_str, isa_int_tup, isa_int_lst, isa_int_wls, isa_int_dic, isa_bool_non, isa_bool_bl, isa_bool_int, isa_bool_str, isa_bool_tup, isa_bool_lst, isa_bool_wls, isa_bool_dic, isa_str_non, isa_str_bl, isa_str_int, isa_str_str, isa_str_tup, isa_str_lst, isa_str_wls, isa_str_dic, isa_list_non, isa_list_bl, isa_list_int, isa_list_str, isa_list_tup, isa_list_lst, isa_list_wls, isa_list_dic, isa_tuple_non, isa_tuple_bl, isa_tuple_int, isa_tuple_str, isa_tuple_tup, isa_tuple_lst, isa_tuple_wls, isa_tuple_dic, isa_list_tuple_non, isa_list_tuple_bl, isa_list_tuple_int, isa_list_tuple_str, isa_list_tuple_tup, isa_list_tuple_lst, isa_list_tuple_wls, isa_list_tuple_dic, isa_int_str_non, isa_int_str_bl, isa_int_str_int, isa_int_str_str, isa_int_str_tup, isa_int_str_lst, isa_int_str_wls, isa_int_str_dic, isa_str_int_non, isa_str_int_bl, isa_str_int_int, isa_str_int_str, isa_str_int_tup, isa_str_int_lst, isa_str_int_wls, isa_str_int_dic, isa_tuple_list_non, isa_tuple_list_bl, isa_tuple_list_int, isa_tuple_list_str, isa_tuple_list_tup, isa_tuple_list_lst, isa_tuple_list_wls, isa_tuple_list_dic, dIsN_bl, dNotN_bl, dIsN_int, dNotN_int, dIsN_str, dNotN_str, dIsN_tup, dNotN_tup, dIsN_lst, dNotN_lst, dIsN_wls, dNotN_wls, dIsN_dic, dNotN_dic, dIsN_non, dNotN_non, tru_bl, tru_non, tru_int, tru_lst, tru_wls, tru_tup, int_int, back_val', back_own', back_non]
        refine or2 ?_ (by first | exact ⟨_, _, _, .inl rfl, rfl⟩ | exact ⟨_, _, _, .inr rfl, rfl⟩)
        refine ws_seq fun K8 hK8 => ?_
        simp only [Wp_ret, Wp_no, Wp_bnd, Wp_ite, Raw.stay_val, Raw.stay_bor, Wp_m2, Wp_var, Wp_peek, Wp_move, Wp_frz, Raw.frz_own, Raw.frz_val, Raw.frz_lst, Wp_gI, Wp_gD, Wp_g1, Wp_g2I, Raw.dt_val, Raw.dt_own, Raw.dt_bor, Wp_isa, Wp_bool, Wp_tru, Wp_not, Wp_and, Wp_or, Wp_ofB, Wp_if, Wp_andV, Wp_orV, Wp_un, Wp_nil, Wp_cons, Raw.datas_nil, Raw.datas_cons, Raw.vals_nil, Raw.vals_cons, Wp_tup, Wp_lst, Wp_call, Wp_callO, Wp_set, Wp_app, Wp_pop, Wp_rev, Wp_range1, Wp_range2, Wp_err, Wp_erris, Ws_nx, Ws_bk, Ws_ct, Ws_retN, Ws_expr, Ws_ret, Ws_if, Ws_set, Ws_par, Ws_unp, Ws_raise, Ws_raise0, dEq_ii, dNe_ii, dLen_lst, dLen_wls, dLen_tup, ix_lst, ix_wls, ix_tup', enF, gSet, gTupD, gsCons, gsNil, ↓reduceIte, List.getElem?_cons_zero, List.getElem?_cons_succ, List.getElem?_nil, List.set_cons_zero, List.set_cons_succ, List.set_nil, List.length_cons, List.length_nil, List.replicate, List.cons_append, List.nil_append, List.append_nil, List.take, Option.map_some, decide_eq_true_eq, decide_eq_false_iff_not, Bool.not_eq_true', Bool.not_eq_false', Bool.not_not, Bool.not_true, Bool.not_false, true_and, and_true, false_and, and_false, imp_self, implies_true, not_false_eq_true, not_true_eq_false, true_implies, false_implies, Bool.true_eq_false, Bool.false_eq_true, forall_const, Nat.reduceAdd, Nat.reduceSub, Nat.reduceEqDiff, Nat.reduceLeDiff, mulOk_iff, divOk_iff, modOk_iff, powOk_iff, small_iff, isa_int_non, isa_int_bl, isa_int_int, isa_int_str, isa_int_tup, isa_int_lst, isa_int_wls, isa_int_dic, isa_bool_non, isa_bool_bl, isa_bool_int, isa_bool_str, isa_bool_tup, isa_bool_lst, isa_bool_wls, isa_bool_dic, isa_str_non, isa_str_bl, isa_str_int, isa_str_str, isa_str_tup, isa_str_lst, isa_str_wls, isa_str_dic, isa_list_non, isa_list_bl, isa_list_int, isa_list_str, isa_list_tup, isa_list_lst, isa_list_wls, isa_list_dic, isa_tuple_non, isa_tuple_bl, isa_tuple_int, isa_tuple_str, isa_tuple_tup, isa_tuple_lst, isa_tuple_wls, isa_tuple_dic, isa_list_tuple_non, isa_list_tuple_bl, isa_list_tuple_int, isa_list_tuple_str, isa_list_tuple_tup, isa_list_tuple_lst, isa_list_tuple_wls, isa_list_tuple_dic, isa_int_str_non, isa_int_str_bl, isa_int_str_int, isa_int_str_str, isa_int_str_tup, isa_int_str_lst, isa_int_str_wls, isa_int_str_dic, isa_str_int_non, isa_str_int_bl, isa_str_int_int, isa_str_int_str, isa_str_int_tup, isa_str_int_lst, isa_str_int_wls, isa_str_int_dic, isa_tuple_list_non, isa_tuple_list_bl, isa_tuple_list_int, isa_tuple_list_str, isa_tuple_list_tup, isa_tuple_list_lst, isa_tuple_list_wls, isa_tuple_list_dic, dIsN_bl, dNotN_bl, dIsN_int, dNotN_int, dIsN_str, dNotN_str, dIsN_tup, dNotN_tup, dIsN_lst, dNotN_lst, dIsN_wls, dNotN_wls, dIsN_dic, dNotN_dic, dIsN_non, dNotN_non, tru_bl, tru_non, tru_int, tru_lst, tru_wls, tru_tup, int_int, back_val', back_own', back_non]
        refine w_start hb (by omega) p0 (by omega) fun _ => hK8 _ ?_
        refine ws_seq fun K9 hK9 => ?_
        simp only [Wp_ret, Wp_no, Wp_bnd, Wp_ite, Raw.stay_val, Raw.stay_bor, Wp_m2, Wp_var, Wp_peek, Wp_move, Wp_frz, Raw.frz_own, Raw.frz_val, Raw.frz_lst, Wp_gI, Wp_gD, Wp_g1, Wp_g2I, Raw.dt_val, Raw.dt_own, Raw.dt_bor, Wp_isa, Wp_bool, Wp_tru, Wp_not, Wp_and, Wp_or, Wp_ofB, Wp_if, Wp_andV, Wp_orV, Wp_un, Wp_nil, Wp_cons, Raw.datas_nil, Raw.datas_cons, Raw.vals_nil, Raw.vals_cons, Wp_tup, Wp_lst, Wp_call, Wp_callO, Wp_set, Wp_app, Wp_pop, Wp_rev, Wp_range1, Wp_range2, Wp_err, Wp_erris, Ws_nx, Ws_bk, Ws_ct, Ws_retN, Ws_expr, Ws_ret, Ws_if, Ws_set, Ws_par, Ws_unp, Ws_raise, Ws_raise0, dEq_ii, dNe_ii, dLen_lst, dLen_wls, dLen_tup, ix_lst, ix_wls, ix_tup', enF, gSet, gTupD, gsCons, gsNil, ↓reduceIte, List.getElem?_cons_zero, List.getElem?_cons_succ, List.getElem?_nil, List.set_cons_zero, List.set_cons_succ, List.set_nil, List.length_cons, List.length_nil, List.replicate, List.cons_append, List.nil_append, List.append_nil, List.take, Option.map_some, decide_eq_true_eq, decide_eq_false_iff_not, Bool.not_eq_true', Bool.not_eq_false', Bool.not_not, Bool.not_true, Bool.not_false, true_and, and_true, false_and, and_false, imp_self, implies_true, not_false_eq_true, not_true_eq_false, true_implies, false_implies, Bool.true_eq_false, Bool.false_eq_true, forall_const, Nat.reduceAdd, Nat.reduceSub, Nat.reduceEqDiff, Nat.reduceLeDiff, mulOk_iff, divOk_iff, modOk_iff, powOk_iff, small_iff, isa_int_non, isa_int_bl, isa_int_int, isa_int_str, isa_int_tup, isa_int_lst, isa_int_wls, isa_int_dic, isa_bool_non, isa_bool_bl, isa_bool_int, isa_bool_str, isa_bool_tup, isa_bool_lst, isa_bool_wls, isa_bool_dic, isa_str_non, isa_str_bl, isa_str_int, isa_str_str, isa_str_tup, isa_str_lst, isa_str_wls, isa_str_dic, isa_list_non, isa_list_bl, isa_list_int, isa_list_str, isa_list_tup, isa_list_lst, isa_list_wls, isa_list_dic, isa_tuple_non, isa_tuple_bl, isa_tuple_int, isa_tuple_str, isa_tuple_tup, isa_tuple_lst, isa_tuple_wls, isa_tuple_dic, isa_list_tuple_non, isa_list_tuple_bl, isa_list_tuple_int, isa_list_tuple_str, isa_list_tuple_tup, isa_list_tuple_lst, isa_list_tuple_wls, isa_list_tuple_dic, isa_int_str_non, isa_int_str_bl, isa_int_str_int, isa_int_str_str, isa_int_str_tup, isa_int_str_lst, isa_int_str_wls, isa_int_str_dic, isa_str_int_non, isa_str_int_bl, isa_str_int_int, isa_str_int_str, isa_str_int_tup, isa_str_int_lst, isa_str_int_wls, isa_str_int_dic, isa_tuple_list_non, isa_tuple_list_bl, isa_tuple_list_int, isa_tuple_list_str, isa_tuple_list_tup, isa_tuple_list_lst, isa_tuple_list_wls, isa_tuple_list_dic, dIsN_bl, dNotN_bl, dIsN_int, dNotN_int, dIsN_str, dNotN_str, dIsN_tup, dNotN_tup, dIsN_lst, dNotN_lst, dIsN_wls, dNotN_wls, dIsN_dic, dNotN_dic, dIsN_non, dNotN_non, tru_bl, tru_non, tru_int, tru_lst, tru_wls, tru_tup, int_int, back_val', back_own', back_non]
        refine w_int fun _ => ?_
        simp only [Wp_ret, Wp_no, Wp_bnd, Wp_ite, Raw.stay_val, Raw.stay_bor, Wp_m2, Wp_var, Wp_peek, Wp_move, Wp_frz, Raw.frz_own, Raw.frz_val, Raw.frz_lst, Wp_gI, Wp_gD, Wp_g1, Wp_g2I, Raw.dt_val, Raw.dt_own, Raw.dt_bor, Wp_isa, Wp_bool, Wp_tru, Wp_not, Wp_and, Wp_or, Wp_ofB, Wp_if, Wp_andV, Wp_orV, Wp_un, Wp_nil, Wp_cons, Raw.datas_nil, Raw.datas_cons, Raw.vals_nil, Raw.vals_cons, Wp_tup, Wp_lst, Wp_call, Wp_callO, Wp_set, Wp_app, Wp_pop, Wp_rev, Wp_range1, Wp_range2, Wp_err, Wp_erris, Ws_nx, Ws_bk, Ws_ct, Ws_retN, Ws_expr, Ws_ret, Ws_if, Ws_set, Ws_par, Ws_unp, Ws_raise, Ws_raise0, dEq_ii, dNe_ii, dLen_lst, dLen_wls, dLen_tup, ix_lst, ix_wls, ix_tup', enF, gSet, gTupD, gsCons, gsNil, ↓reduceIte, List.getElem?_cons_zero, List.getElem?_cons_succ, List.getElem?_nil, List.set_cons_zero, List.set_cons_succ, List.set_nil, List.length_cons, List.length_nil, List.replicate, List.cons_append, List.nil_append, List.append_nil, List.take, Option.map_some, decide_eq_true_eq, decide_eq_false_iff_not, Bool.not_eq_true', Bool.not_eq_false', Bool.not_not, Bool.not_true, Bool.not_false, true_and, and_true, false_and, and_false, imp_self, implies_true, not_false_eq_true, not_true_eq_false, true_implies, false_implies, Bool.true_eq_false, Bool.false_eq_true, forall_const, Nat.reduceAdd, Nat.reduceSub, Nat.reduceEqDiff, Nat.reduceLeDiff, mulOk_iff, divOk_iff, modOk_iff, powOk_iff, small_iff, isa_int_non, isa_int_bl, isa_int_int, isa_int_str, isa_int_tup, isa_int_lst, isa_int_wls, isa_int_dic, isa_bool_non, isa_bool_bl, isa_bool_int, isa_bool_str, isa_bool_tup, isa_bool_lst, isa_bool_wls, isa_bool_dic, isa_str_non, isa_str_bl, isa_str_int, isa_str_str, isa_str_tup, isa_str_lst, isa_str_wls, isa_str_dic, isa_list_non, isa_list_bl, isa_list_int, isa_list_str, isa_list_tup, isa_list_lst, isa_list_wls, isa_list_dic, isa_tuple_non, isa_tuple_bl, isa_tuple_int, isa_tuple_str, isa_tuple_tup, isa_tuple_lst, isa_tuple_wls, isa_tuple_dic, isa_list_tuple_non, isa_list_tuple_bl, isa_list_tuple_int, isa_list_tuple_str, isa_list_tuple_tup, isa_list_tuple_lst, isa_list_tuple_wls, isa_list_tuple_dic, isa_int_str_non, isa_int_str_bl, isa_int_str_int, isa_int_str_str, isa_int_str_tup, isa_int_str_lst, isa_int_str_wls, isa_int_str_dic, isa_str_int_non, isa_str_int_bl, isa_str_int_int, isa_str_int_str, isa_str_int_tup, isa_str_int_lst, isa_str_int_wls, isa_str_int_dic, isa_tuple_list_non, isa_tuple_list_bl, isa_tuple_list_int, isa_tuple_list_str, isa_tuple_list_tup, isa_tuple_list_lst, isa_tuple_list_wls, isa_tuple_list_dic, dIsN_bl, dNotN_bl, dIsN_int, dNotN_int, dIsN_str, dNotN_str, dIsN_tup, dNotN_tup, dIsN_lst, dNotN_lst, dIsN_wls, dNotN_wls, dIsN_dic, dNotN_dic, dIsN_non, dNotN_non, tru_bl, tru_non, tru_int, tru_lst, tru_wls, tru_tup, int_int, back_val', back_own', back_non, at_, decide_true]
        refine hK9 _ ?_
        refine ws_seq fun K10 hK10 => ?_
        simp only [Wp_ret, Wp_no, Wp_bnd, Wp_ite, Raw.stay_val, Raw.stay_bor, Wp_m2, Wp_var, Wp_peek, Wp_move, Wp_frz, Raw.frz_own, Raw.frz_val, Raw.frz_lst, Wp_gI, Wp_gD, Wp_g1, Wp_g2I, Raw.dt_val, Raw.dt_own, Raw.dt_bor, Wp_isa, Wp_bool, Wp_tru, Wp_not, Wp_and, Wp_or, Wp_ofB, Wp_if, Wp_andV, Wp_orV, Wp_un, Wp_nil, Wp_cons, Raw.datas_nil, Raw.datas_cons, Raw.vals_nil, Raw.vals_cons, Wp_tup, Wp_lst, Wp_call, Wp_callO, Wp_set, Wp_app, Wp_pop, Wp_rev, Wp_range1, Wp_range2, Wp_err, Wp_erris, Ws_nx, Ws_bk, Ws_ct, Ws_retN, Ws_expr, Ws_ret, Ws_if, Ws_set, Ws_par, Ws_unp, Ws_raise, Ws_raise0, dEq_ii, dNe_ii, dLen_lst, dLen_wls, dLen_tup, ix_lst, ix_wls, ix_tup', enF, gSet, gTupD, gsCons, gsNil, ↓reduceIte, List.getElem?_cons_zero, List.getElem?_cons_succ, List.getElem?_nil, List.set_cons_zero, List.set_cons_succ, List.set_nil, List.length_cons, List.length_nil, List.replicate, List.cons_append, List.nil_append, List.append_nil, List.take, Option.map_some, decide_eq_true_eq, decide_eq_false_iff_not, Bool.not_eq_true', Bool.not_eq_false', Bool.not_not, Bool.not_true, Bool.not_false, true_and, and_true, false_and, and_false, imp_self, implies_true, not_false_eq_true, not_true_eq_false, true_implies, false_implies, Bool.true_eq_false, Bool.false_eq_true, forall_const, Nat.reduceAdd, Nat.reduceSub, Nat.reduceEqDiff, Nat.reduceLeDiff, mulOk_iff, divOk_iff, modOk_iff, powOk_iff, small_iff, isa_int_non, isa_int_bl, isa_int_int, isa_int_str, isa_int_tup, isa_int_lst, isa_int_wls, isa_int_dic, isa_bool_non, isa_bool_bl, isa_bool_int, isa_bool_str, isa_bool_tup, isa_bool_lst, isa_bool_wls, isa_bool_dic, isa_str_non, isa_str_bl, isa_str_int, isa_str_str, isa_str_tup, isa_str_lst, isa_str_wls, isa_str_dic, isa_list_non, isa_list_bl, isa_list_int, isa_list_str, isa_list_tup, isa_list_lst, isa_list_wls, isa_list_dic, isa_tuple_non, isa_tuple_bl, isa_tuple_int, isa_tuple_str, isa_tuple_tup, isa_tuple_lst, isa_tuple_wls, isa_tuple_dic, isa_list_tuple_non, isa_list_tuple_bl, isa_list_tuple_int, isa_list_tuple_str, isa_list_tuple_tup, isa_list_tuple_lst, isa_list_tuple_wls, isa_list_tuple_dic, isa_int_str_non, isa_int_str_bl, isa_int_str_int, isa_int_str_str, isa_int_str_tup, isa_int_str_lst, isa_int_str_wls, isa_int_str_dic, isa_str_int_non, isa_str_int_bl, isa_str_int_int, isa_str_int_str, isa_str_int_tup, isa_str_int_lst, isa_str_int_wls, isa_str_int_dic, isa_tuple_list_non, isa_tuple_list_bl, isa_tuple_list_int, isa_tuple_list_str, isa_tuple_list_tup, isa_tuple_list_lst, isa_tuple_list_wls, isa_tuple_list_dic, dIsN_bl, dNotN_bl, dIsN_int, dNotN_int, dIsN_str, dNotN_str, dIsN_tup, dNotN_tup, dIsN_lst, dNotN_lst, dIsN_wls, dNotN_wls, dIsN_dic, dNotN_dic, dIsN_non, dNotN_non, tru_bl, tru_non, tru_int, tru_lst, tru_wls, tru_tup, int_int, back_val', back_own', back_non]
        refine w_leader hx3 fun _ => ?_
        simp only [Wp_ret, Wp_no, Wp_bnd, Wp_ite, Raw.stay_val, Raw.stay_bor, Wp_m2, Wp_var, Wp_peek, Wp_move, Wp_frz, Raw.frz_own, Raw.frz_val, Raw.frz_lst, Wp_gI, Wp_gD, Wp_g1, Wp_g2I, Raw.dt_val, Raw.dt_own, Raw.dt_bor, Wp_isa, Wp_bool, Wp_tru, Wp_not, Wp_and, Wp_or, Wp_ofB, Wp_if, Wp_andV, Wp_orV, Wp_un, Wp_nil, Wp_cons, Raw.datas_nil, Raw.datas_cons, Raw.vals_nil, Raw.vals_cons, Wp_tup, Wp_lst, Wp_call, Wp_callO, Wp_set, Wp_app, Wp_pop, Wp_rev, Wp_range1, Wp_range2, Wp_err, Wp_erris, Ws_nx, Ws_bk, Ws_ct, Ws_retN, Ws_expr, Ws_ret, Ws_if, Ws_set, Ws_par, Ws_unp, Ws_raise, Ws_raise0, dEq_ii, dNe_ii, dLen_lst, dLen_wls, dLen_tup, ix_lst, ix_wls, ix_tup', enF, gSet, gTupD, gsCons, gsNil, ↓reduceIte, List.getElem?_cons_zero, List.getElem?_cons_succ, List.getElem?_nil, List.set_cons_zero, List.set_cons_succ, List.set_nil, List.length_cons, List.length_nil, List.replicate, List.cons_append, List.nil_append, List.append_nil, List.take, Option.map_some, decide_eq_true_eq, decide_eq_false_iff_not, Bool.not_eq_true', Bool.not_eq_false', Bool.not_not, Bool.not_true, Bool.not_false, true_and, and_true, false_and, and_false, imp_self, implies_true, not_false_eq_true, not_true_eq_false, true_implies, false_implies, Bool.true_eq_false, Bool.false_eq_true, forall_const, Nat.reduceAdd, Nat.reduceSub, Nat.reduceEqDiff, Nat.reduceLeDiff, mulOk_iff, divOk_iff, modOk_iff, powOk_iff, small_iff, isa_int_non, isa_int_bl, isa_int_int, isa_int_str, isa_int_tup, isa_int_lst, isa_int_wls, isa_int_dic, isa_bool_non, isa_bool_bl, isa_bool_int, isa_bool_str, isa_bool_tup, isa_bool_lst, isa_bool_wls, isa_bool_dic, isa_str_non, isa_str_bl, isa_str_int, isa_str_str, isa_str_tup, isa_str_lst, isa_str_wls, isa_str_dic, isa_list_non, isa_list_bl, isa_list_int, isa_list_str, isa_list_tup, isa_list_lst, isa_list_wls, isa_list_dic, isa_tuple_non, isa_tuple_bl, isa_tuple_int, isa_tuple_str, isa_tuple_tup, isa_tuple_lst, isa_tuple_wls, isa_tuple_dic, isa_list_tuple_non, isa_list_tuple_bl, isa_list_tuple_int, isa_list_tuple_str, isa_list_tuple_tup, isa_list_tuple_lst, isa_list_tuple_wls, isa_list_tuple_dic, isa_int_str_non, isa_int_str_bl, isa_int_str_int, isa_int_str_str, isa_int_str_tup, isa_int_str_lst, isa_int_str_wls, isa_int_str_dic, isa_str_int_non, isa_str_int_bl, isa_str_int_int, isa_str_int_str, isa_str_int_tup, isa_str_int_lst, isa_str_int_wls, isa_str_int_dic, isa_tuple_list_non, isa_tuple_list_bl, isa_tuple_list_int, isa_tuple_list_str, isa_tuple_list_tup, isa_tuple_list_lst, isa_tuple_list_wls, isa_tuple_list_dic, dIsN_bl, dNotN_bl, dIsN_int, dNotN_int, dIsN_str, dNotN_str, dIsN_tup, dNotN_tup, dIsN_lst, dNotN_lst, dIsN_wls, dNotN_wls, dIsN_dic, dNotN_dic, dIsN_non, dNotN_non, tru_bl, tru_non, tru_int, tru_lst, tru_wls, tru_tup, int_int, back_val', back_own', back_non, decide_true]
        refine ⟨hx3, hK10 _ ?_⟩
        refine ws_seq fun K11 hK11 => ?_
        simp only [Wp_ret, Wp_no, Wp_bnd, Wp_ite, Raw.stay_val, Raw.stay_bor, Wp_m2, Wp_var, Wp_peek, Wp_move, Wp_frz, Raw.frz_own, Raw.frz_val, Raw.frz_lst, Wp_gI, Wp_gD, Wp_g1, Wp_g2I, Raw.dt_val, Raw.dt_own, Raw.dt_bor, Wp_isa, Wp_bool, Wp_tru, Wp_not, Wp_and, Wp_or, Wp_ofB, Wp_if, Wp_andV, Wp_orV, Wp_un, Wp_nil, Wp_cons, Raw.datas_nil, Raw.datas_cons, Raw.vals_nil, Raw.vals_cons, Wp_tup, Wp_lst, Wp_call, Wp_callO, Wp_set, Wp_app, Wp_pop, Wp_rev, Wp_range1, Wp_range2, Wp_err, Wp_erris, Ws_nx, Ws_bk, Ws_ct, Ws_retN, Ws_expr, Ws_ret, Ws_if, Ws_set, Ws_par, Ws_unp, Ws_raise, Ws_raise0, dEq_ii, dNe_ii, dLen_lst, dLen_wls, dLen_tup, ix_lst, ix_wls, ix_tup', enF, gSet, gTupD, gsCons, gsNil, ↓reduceIte, List.getElem?_cons_zero, List.getElem?_cons_succ, List.getElem?_nil, List.set_cons_zero, List.set_cons_succ, List.set_nil, List.length_cons, List.length_nil, List.replicate, List.cons_append, List.nil_append, List.append_nil, List.take, Option.map_some, decide_eq_true_eq, decide_eq_false_iff_not, Bool.not_eq_true', Bool.not_eq_false', Bool.not_not, Bool.not_true, Bool.not_false, true_and, and_true, false_and, and_false, imp_self, implies_true, not_false_eq_true, not_true_eq_false, true_implies, false_implies, Bool.true_eq_false, Bool.false_eq_true, forall_const, Nat.reduceAdd, Nat.reduceSub, Nat.reduceEqDiff, Nat.reduceLeDiff, mulOk_iff, divOk_iff, modOk_iff, powOk_iff, small_iff, isa_int_non, isa_int_bl, isa_int_int, isa_int_str, isa_int_tup, isa_int_lst, isa_int_wls, isa_int_dic, isa_bool_non, isa_bool_bl, isa_bool_int, isa_bool_str, isa_bool_tup, isa_bool_lst, isa_bool_wls, isa_bool_dic, isa_str_non, isa_str_bl, isa_str_int, isa_str_str, isa_str_tup, isa_str_lst, isa_str_wls, isa_str_dic, isa_list_non, isa_list_bl, isa_list_int, isa_list_str, isa_list_tup, isa_list_lst, isa_list_wls, isa_list_dic, isa_tuple_non, isa_tuple_bl, isa_tuple_int, isa_tuple_str, isa_tuple_tup, isa_tuple_lst, isa_tuple_wls, isa_tuple_dic, isa_list_tuple_non, isa_list_tuple_bl, isa_list_tuple_int, isa_list_tuple_str, isa_list_tuple_tup, isa_list_tuple_lst, isa_list_tuple_wls, isa_list_tuple_dic, isa_int_str_non, isa_int_str_bl, isa_int_str_int, isa_int_str_str, isa_int_str_tup, isa_int_str_lst, isa_int_str_wls, isa_int_str_dic, isa_str_int_non, isa_str_int_bl, isa_str_int_int, isa_str_int_str, isa_str_int_tup, isa_str_int_lst, isa_str_int_wls, isa_str_int_dic, isa_tuple_list_non, isa_tuple_list_bl, isa_tuple_list_int, isa_tuple_list_str, isa_tuple_list_tup, isa_tuple_list_lst, isa_tuple_list_wls, isa_tuple_list_dic, dIsN_bl, dNotN_bl, dIsN_int, dNotN_int, dIsN_str, dNotN_str, dIsN_tup, dNotN_tup, dIsN_lst, dNotN_lst, dIsN_wls, dNotN_wls, dIsN_dic, dNotN_dic, dIsN_non, dNotN_non, tru_bl, tru_non, tru_int, tru_lst, tru_wls, tru_tup, int_int, back_val', back_own', back_non, at_]
        refine w_right (by omega) hb (by omega) (by omega) (by omega) (by omega) fun _ => ?_
        simp only [Wp_ret, Wp_no, Wp_bnd, Wp_ite, Raw.stay_val, Raw.stay_bor, Wp_m2, Wp_var, Wp_peek, Wp_move, Wp_frz, Raw.frz_own, Raw.frz_val, Raw.frz_lst, Wp_gI, Wp_gD, Wp_g1, Wp_g2I, Raw.dt_val, Raw.dt_own, Raw.dt_bor, Wp_isa, Wp_bool, Wp_tru, Wp_not, Wp_and, Wp_or, Wp_ofB, Wp_if, Wp_andV, Wp_orV, Wp_un, Wp_nil, Wp_cons, Raw.datas_nil, Raw.datas_cons, Raw.vals_nil, Raw.vals_cons, Wp_tup, Wp_lst, Wp_call, Wp_callO, Wp_set, Wp_app, Wp_pop, Wp_rev, Wp_range1, Wp_range2, Wp_err, Wp_erris, Ws_nx, Ws_bk, Ws_ct, Ws_retN, Ws_expr, Ws_ret, Ws_if, Ws_set, Ws_par, Ws_unp, Ws_raise, Ws_raise0, dEq_ii, dNe_ii, dLen_lst, dLen_wls, dLen_tup, ix_lst, ix_wls, ix_tup', enF, gSet, gTupD, gsCons, gsNil, ↓reduceIte, List.getElem?_cons_zero, List.getElem?_cons_succ, List.getElem?_nil, List.set_cons_zero, List.set_cons_succ, List.set_nil, List.length_cons, List.length_nil, List.replicate, List.cons_append, List.nil_append, List.append_nil, List.take, Option.map_some, decide_eq_true_eq, decide_eq_false_iff_not, Bool.not_eq_true', Bool.not_eq_false', Bool.not_not, Bool.not_true, Bool.not_false, true_and, and_true, false_and, and_false, imp_self, implies_true, not_false_eq_true, not_true_eq_false, true_implies, false_implies, Bool.true_eq_false, Bool.false_eq_true, forall_const, Nat.reduceAdd, Nat.reduceSub, Nat.reduceEqDiff, Nat.reduceLeDiff, mulOk_iff, divOk_iff, modOk_iff, powOk_iff, small_iff, isa_int_non, isa_int_bl, isa_int_int, isa_int_str, isa_int_tup, isa_int_lst, isa_int_wls, isa_int_dic, isa_bool_non, isa_bool_bl, isa_bool_int, isa_bool_str, isa_bool_tup, isa_bool_lst, isa_bool_wls, isa_bool_dic, isa_str_non, isa_str_bl, isa_str_int, isa_str_str, isa_str_tup, isa_str_lst, isa_str_wls, isa_str_dic, isa_list_non, isa_list_bl, isa_list_int, isa_list_str, isa_list_tup, isa_list_lst, isa_list_wls, isa_list_dic, isa_tuple_non, isa_tuple_bl, isa_tuple_int, isa_tuple_str, isa_tuple_tup, isa_tuple_lst, isa_tuple_wls, isa_tuple_dic, isa_list_tuple_non, isa_list_tuple_bl, isa_list_tuple_int, isa_list_tuple_str, isa_list_tuple_tup, isa_list_tuple_lst, isa_list_tuple_wls, isa_list_tuple_dic, isa_int_str_non, isa_int_str_bl, isa_int_str_int, isa_int_str_str, isa_int_str_tup, isa_int_str_lst, isa_int_str_wls, isa_int_str_dic, isa_str_int_non, isa_str_int_bl, isa_str_int_int, isa_str_int_str, isa_str_int_tup, isa_str_int_lst, isa_str_int_wls, isa_str_int_dic, isa_tuple_list_non, isa_tuple_list_bl, isa_tuple_list_int, isa_tuple_list_str, isa_tuple_list_tup, isa_tuple_list_lst, isa_tuple_list_wls, isa_tuple_list_dic, dIsN_bl, dNotN_bl, dIsN_int, dNotN_int, dIsN_str, dNotN_str, dIsN_tup, dNotN_tup, dIsN_lst, dNotN_lst, dIsN_wls, dNotN_wls, dIsN_dic, dNotN_dic, dIsN_non, dNotN_non, tru_bl, tru_non, tru_int, tru_lst, tru_wls, tru_tup, int_int, back_val', back_own', back_non]
        refine hK11 _ ?_
        simp only [Wp_ret, Wp_no, Wp_bnd, Wp_ite, Raw.stay_val, Raw.stay_bor, Wp_m2, Wp_var, Wp_peek, Wp_move, Wp_frz, Raw.frz_own, Raw.frz_val, Raw.frz_lst, Wp_gI, Wp_gD, Wp_g1, Wp_g2I, Raw.dt_val, Raw.dt_own, Raw.dt_bor, Wp_isa, Wp_bool, Wp_tru, Wp_not, Wp_and, Wp_or, Wp_ofB, Wp_if, Wp_andV, Wp_orV, Wp_un, Wp_nil, Wp_cons, Raw.datas_nil, Raw.datas_cons, Raw.vals_nil, Raw.vals_cons, Wp_tup, Wp_lst, Wp_call, Wp_callO, Wp_set, Wp_app, Wp_pop, Wp_rev, Wp_range1, Wp_range2, Wp_err, Wp_erris, Ws_nx, Ws_bk, Ws_ct, Ws_retN, Ws_expr, Ws_ret, Ws_if, Ws_set, Ws_par, Ws_unp, Ws_raise, Ws_raise0, dEq_ii, dNe_ii, dLen_lst, dLen_wls, dLen_tup, ix_lst, ix_wls, ix_tup', enF, gSet, gTupD, gsCons, gsNil, ↓reduceIte, List.getElem?_cons_zero, List.getElem?_cons_succ, List.getElem?_nil, List.set_cons_zero, List.set_cons_succ, List.set_nil, List.length_cons, List.length_nil, List.replicate, List.cons_append, List.nil_append, List.append_nil, List.take, Option.map_some, decide_eq_true_eq, decide_eq_false_iff_not, Bool.not_eq_true', Bool.not_eq_false', Bool.not_not, Bool.not_true, Bool.not_false, true_and, and_true, false_and, and_false, imp_self, implies_true, not_false_eq_true, not_true_eq_false, true_implies, false_implies, Bool.true_eq_false, Bool.false_eq_true, forall_const, Nat.reduceAdd, Nat.reduceSub, Nat.reduceEqDiff, Nat.reduceLeDiff, mulOk_iff, divOk_iff, modOk_iff, powOk_iff, small_iff, isa_int_non, isa_int_bl, isa_int_int, isa_int_str, isa_int_tup, isa_int_lst, isa_int_wls, isa_int_dic, isa_bool_non, isa_bool_bl, isa_bool_int, isa_bool_str, isa_bool_tup, isa_bool_lst, isa_bool_wls, isa_bool_dic, isa_str_non, isa_str_bl, isa_str_int, isa_str_str, isa_str_tup, isa_str_lst, isa_str_wls, isa_str_dic, isa_list_non, isa_list_bl, isa_list_int, isa_list_str, isa_list_tup, isa_list_lst, isa_list_wls, isa_list_dic, isa_tuple_non, isa_tuple_bl, isa_tuple_int, isa_tuple_str, isa_tuple_tup, isa_tuple_lst, isa_tuple_wls, isa_tuple_dic, isa_list_tuple_non, isa_list_tuple_bl, isa_list_tuple_int, isa_list_tuple_str, isa_list_tuple_tup, isa_list_tuple_lst, isa_list_tuple_wls, isa_list_tuple_dic, isa_int_str_non, isa_int_str_bl, isa_int_str_int, isa_int_str_str, isa_int_str_tup, isa_int_str_lst, isa_int_str_wls, isa_int_str_dic, isa_str_int_non, isa_str_int_bl, isa_str_int_int, isa_str_int_str, isa_str_int_tup, isa_str_int_lst, isa_str_int_wls, isa_str_int_dic, isa_tuple_list_non, isa_tuple_list_bl, isa_tuple_list_int, isa_tuple_list_str, isa_tuple_list_tup, isa_tuple_list_lst, isa_tuple_list_wls, isa_tuple_list_dic, dIsN_bl, dNotN_bl, dIsN_int, dNotN_int, dIsN_str, dNotN_str, dIsN_tup, dNotN_tup, dIsN_lst, dNotN_lst, dIsN_wls, dNotN_wls, dIsN_dic, dNotN_dic, dIsN_non, dNotN_non, tru_bl, tru_non, tru_int, tru_lst, tru_wls, tru_tup, int_int, back_val', back_own', back_non, at_]
        refine w_at hb (by omega) (by omega) (by omega) fun r _ h0 h1 h2 => ?_
        have hr : r = i := vs_inj hb h0 p0 h1 h2 (by omega) (by omega)
        subst hr
        simp only [Wp_ret, Wp_no, Wp_bnd, Wp_ite, Raw.stay_val, Raw.stay_bor, Wp_m2, Wp_var, Wp_peek, Wp_move, Wp_frz, Raw.frz_own, Raw.frz_val, Raw.frz_lst, Wp_gI, Wp_gD, Wp_g1, Wp_g2I, Raw.dt_val, Raw.dt_own, Raw.dt_bor, Wp_isa, Wp_bool, Wp_tru, Wp_not, Wp_and, Wp_or, Wp_ofB, Wp_if, Wp_andV, Wp_orV, Wp_un, Wp_nil, Wp_cons, Raw.datas_nil, Raw.datas_cons, Raw.vals_nil, Raw.vals_cons, Wp_tup, Wp_lst, Wp_call, Wp_callO, Wp_set, Wp_app, Wp_pop, Wp_rev, Wp_range1, Wp_range2, Wp_err, Wp_erris, Ws_nx, Ws_bk, Ws_ct, Ws_retN, Ws_expr, Ws_ret, Ws_if, Ws_set, Ws_par, Ws_unp, Ws_raise, Ws_raise0, dEq_ii, dNe_ii, dLen_lst, dLen_wls, dLen_tup, ix_lst, ix_wls, ix_tup', enF, gSet, gTupD, gsCons, gsNil, ↓reduceIte, List.getElem?_cons_zero, List.getElem?_cons_succ, List.getElem?_nil, List.set_cons_zero, List.set_cons_succ, List.set_nil, List.length_cons, List.length_nil, List.replicate, List.cons_append, List.nil_append, List.append_nil, List.take, Option.map_some, decide_eq_true_eq, decide_eq_false_iff_not, Bool.not_eq_true', Bool.not_eq_false', Bool.not_not, Bool.not_true, Bool.not_false, true_and, and_true, false_and, and_false, imp_self, implies_true, not_false_eq_true, not_true_eq_false, true_implies, false_implies, Bool.true_eq_false, Bool.false_eq_true, forall_const, Nat.reduceAdd, Nat.reduceSub, Nat.reduceEqDiff, Nat.reduceLeDiff, mulOk_iff, divOk_iff, modOk_iff, powOk_iff, small_iff, isa_int_non, isa_int_bl, isa_int_int, isa_int_str, isa_int_tup, isa_int_lst, isa_int_wls, isa_int_dic, isa_bool_non, isa_bool_bl, isa_bool_int, isa_bool_str, isa_bool_tup, isa_bool_lst, isa_bool_wls, isa_bool_dic, isa_str_non, isa_str_bl, isa_str_int, isa_str_str, isa_str_tup, isa_str_lst, isa_str_wls, isa_str_dic, isa_list_non, isa_list_bl, isa_list_int, isa_list_str, isa_list_tup, isa_list_lst, isa_list_wls, isa_list_dic, isa_tuple_non, isa_tuple_bl, isa_tuple_int, isa_tuple_str, isa_tuple_tup, isa_tuple_lst, isa_tuple_wls, isa_tuple_dic, isa_list_tuple_non, isa_list_tuple_bl, isa_list_tuple_int, isa_list_tuple_str, isa_list_tuple_tup, isa_list_tuple_lst, isa_list_tuple_wls, isa_list_tuple_dic, isa_int_str_non, isa_int_str_bl, isa_int_str_int, isa_int_str_str, isa_int_str_tup, isa_int_str_lst, isa_int_str_wls, isa_int_str_dic, isa_str_int_non, isa_str_int_bl, isa_str_int_int, isa_str_int_str, isa_str_int_tup, isa_str_int_lst, isa_str_int_wls, isa_str_int_dic, isa_tuple_list_non, isa_tuple_list_bl, isa_tuple_list_int, isa_tuple_list_str, isa_tuple_list_tup, isa_tuple_list_lst, isa_tuple_list_wls, isa_tuple_list_dic, dIsN_bl, dNotN_bl, dIsN_int, dNotN_int, dIsN_str, dNotN_str, dIsN_tup, dNotN_tup, dIsN_lst, dNotN_lst, dIsN_wls, dNotN_wls, dIsN_dic, dNotN_dic, dIsN_non, dNotN_non, tru_bl, tru_non, tru_int, tru_lst, tru_wls, tru_tup, int_int, back_val', back_own', back_non, decide_true]
        exact ⟨_, _, _, .inr rfl, rfl⟩
    · rintro ρ ⟨s5, w, t, hs, rfl⟩
      refine hK7 _ ?_
      refine ws_seq fun K8 hK8 => ?_
      refine ws_for ?_
      simp only [Wp_ret, Wp_no, Wp_bnd, Wp_ite, Raw.stay_val, Raw.stay_bor, Wp_m2, Wp_var, Wp_peek, Wp_move, Wp_frz, Raw.frz_own, Raw.frz_val, Raw.frz_lst, Wp_gI, Wp_gD, Wp_g1, Wp_g2I, Raw.dt_val, Raw.dt_own, Raw.dt_bor, Wp_isa, Wp_bool, Wp_tru, Wp_not, Wp_and, Wp_or, Wp_ofB, Wp_if, Wp_andV, Wp_orV, Wp_un, Wp_nil, Wp_cons, Raw.datas_nil, Raw.datas_cons, Raw.vals_nil, Raw.vals_cons, Wp_tup, Wp_lst, Wp_call, Wp_callO, Wp_set, Wp_app, Wp_pop, Wp_rev, Wp_range1, Wp_range2, Wp_err, Wp_erris, Ws_nx, Ws_bk, Ws_ct, Ws_retN, Ws_expr, Ws_ret, Ws_if, Ws_set, Ws_par, Ws_unp, Ws_raise, Ws_raise0, dEq_ii, dNe_ii, dLen_lst, dLen_wls, dLen_tup, ix_lst, ix_wls, ix_tup', enF, gSet, gTupD, gsCons, gsNil, ↓reduceIte, List.getElem?_cons_zero, List.getElem?_cons_succ, List.getElem?_nil, List.set_cons_zero, List.set_cons_succ, List.set_nil, List.length_cons, List.length_nil, List.replicate, List.cons_append, List.nil_append, List.append_nil, List.take, Option.map_some, decide_eq_true_eq, decide_eq_false_iff_not, Bool.not_eq_true', Bool.not_eq_false', Bool.not_not, Bool.not_true, Bool.not_false, true_and, and_true, false_and, and_false, imp_self, implies_true, not_false_eq_true, not_true_eq_false, true_implies, false_implies, Bool.true_eq_false, Bool.false_eq_true, forall_const, Nat.reduceAdd, Nat.reduceSub, Nat.reduceEqDiff, Nat.reduceLeDiff, mulOk_iff, divOk_iff, modOk_iff, powOk_iff, small_iff, isa_int_non, isa_int_bl, isa_int_int, isa_int_str, isa_int_tup, isa_int_lst, isa_int_wls, isa_int_dic, isa_bool_non, isa_bool_bl, isa_bool_int, isa_bool_str, isa_bool_tup, isa_bool_lst, isa_bool_wls, isa_bool_dic, isa_str_non, isa_str_bl, isa_str_int, isa_str_str, isa_str_tup, isa_str_lst, isa_str_wls, isa_str_dic, isa_list_non, isa_list_bl, isa_list_int, isa_list_str, isa_list_tup, isa_list_lst, isa_list_wls, isa_list_dic, isa_tuple_non, isa_tuple_bl, isa_tuple_int, isa_tuple_str, isa_tuple_tup, isa_tuple_lst, isa_tuple_wls, isa_tuple_dic, isa_list_tuple_non, isa_list_tuple_bl, isa_list_tuple_int, isa_list_tuple_str, isa_list_tuple_tup, isa_list_tuple_lst, isa_list_tuple_wls, isa_list_tuple_dic, isa_int_str_non, isa_int_str_bl, isa_int_str_int, isa_int_str_str, isa_int_str_tup, isa_int_str_lst, isa_int_str_wls, isa_int_str_dic, isa_str_int_non, isa_str_int_bl, isa_str_int_int, isa_str_int_str, isa_str_int_tup, isa_str_int_lst, isa_str_int_wls, isa_str_int_dic, isa_tuple_list_non, isa_tuple_list_bl, isa_tuple_list_int, isa_tuple_list_str, isa_tuple_list_tup, isa_tuple_list_lst, isa_tuple_list_wls, isa_tuple_list_dic, dIsN_bl, dNotN_bl, dIsN_int, dNotN_int, dIsN_str, dNotN_str, dIsN_tup, dNotN_tup, dIsN_lst, dNotN_lst, dIsN_wls, dNotN_wls, dIsN_dic, dNotN_dic, dIsN_non, dNotN_non, tru_bl, tru_non, tru_int, tru_lst, tru_wls, tru_tup, int_int, back_val', back_own', back_non]
      refine ⟨by decide, ?_⟩
      refine ws_forR (fun i ρ => ∃ s5 s7, (s5 = .own (.lst (sts b (f + 2))) ∨ s5 = .val (.lst (sts b (f + 2)))) ∧ ρ = [.val (.wls (ns.map .int)), .own (.lst (ys4.map .int)), .val (.int b), .val (.int (1 + x3)), .val (.int f), s5, w, s7, .non, t]) ⟨_, _, hs, rfl⟩ (by decide) ?_ ?_
      · rintro i ρ p0 p1 ⟨s5, s7, hs, rfl⟩
        rcases hs with rfl | rfl
        all_goals
          simp only [Wp_ret, Wp_no, Wp_bnd, Wp_ite, Raw.stay_val, Raw.stay_bor, Wp_m2, Wp_var, Wp_peek, Wp_move, Wp_frz, Raw.frz_own, Raw.frz_val, Raw.frz_lst, Wp_gI, Wp_gD, Wp_g1, Wp_g2I, Raw.dt_val, Raw.dt_own, Raw.dt_bor, Wp_isa, Wp_bool, Wp_tru, Wp_not, Wp_and, Wp_or, Wp_ofB, Wp_if, Wp_andV, Wp_orV, Wp_un, Wp_nil, Wp_cons, Raw.datas_nil, Raw.datas_cons, Raw.vals_nil, Raw.vals_cons, Wp_tup, Wp_lst, Wp_call, Wp_callO, Wp_set, Wp_app, Wp_pop, Wp_rev, Wp_range1, Wp_range2, Wp_err, Wp_erris, Ws_nx, Ws_bk, Ws_ct, Ws_retN, Ws_expr, Ws_ret, Ws_if, Ws_set, Ws_par, Ws_unp, Ws_raise, Ws_raise0, dEq_ii, dNe_ii, dLen_lst, dLen_wls, dLen_tup, ix_lst, ix_wls, ix_tup', enF, gSet, gTupD, gsCons, gsNil, ↓reduceIte, List.getElem?_cons_zero, List.getElem?_cons_succ, List.getElem?_nil, List.set_cons_zero, List.set_cons_succ, List.set_nil, List.length_cons, List.length_nil, List.replicate, List.cons_append, List.nil_append, List.append_nil, List.take, Option.map_some, decide_eq_true_eq, decide_eq_false_iff_not, Bool.not_eq_true', Bool.not_eq_false', Bool.not_not, Bool.not_true, Bool.not_false, true_and, and_true, false_and, and_false, imp_self, implies_true, not_false_eq_true, not_true_eq_false, true_implies, false_implies, Bool.true_eq_false, Bool.false_eq_true, forall_const, Nat.reduceAdd, Nat.reduceSub, Nat.reduceEqDiff, Nat.reduceLeDiff, mulOk_iff, divOk_iff, modOk_iff, powOk_iff, small_iff, isa_int_non, isa_int_bl, isa_int_int, isa_int_str, isa_int_tup, isa_int_lst, isa_int_wls, isa_int_dic, isa_bool_non, isa_bool_bl, isa_bool_int, isa_bool_str, isa_bool_tup, isa_bool_lst, isa_bool_wls, isa_bool_dic, isa_str_non, isa_str_bl, isa_str_int, isa_str_str, isa_str_tup, isa_str_lst, isa_str_wls, isa_str_dic, isa_list_non, isa_list_bl, isa_list_int, isa_list_str, isa_list_tup, isa_list_lst, isa_list_wls, isa_list_dic, isa_tuple_non, isa_tuple_bl, isa_tuple_int, isa_tuple_str, isa_tuple_tup, isa_tuple_lst, isa_tuple_wls, isa_tuple_dic, isa_list_tuple_non, isa_list_tuple_bl, isa_list_tuple_int, isa_list_tuple_str, isa_list_tuple_tup, isa_list_tuple_lst, isa_list_tuple_wls, isa_list_tuple_dic, isa_int_str_non, isa_int_str_bl, isa_int_str_int, isa_int_str_str, isa_int_str_tup, isa_int_str_lst, isa_int_str_wls, isa_int_str_dic, isa_str_int_non, isa_str_int_bl, isa_str_int_int, isa_str_int_str, isa_str_int_tup, isa_str_int_lst, isa_str_int_wls, isa_str_int_dic, isa_tuple_list_non, isa_tuple_list_bl, isa_tuple_list_int, isa_tuple_list_str, isa_tuple_list_tup, isa_tuple_list_lst, isa_tuple_list_wls, isa_tuple_list_dic, dIsN_bl, dNotN_bl, dIsN_int, dNotN_int, dIsN_str, dNotN_str, dIsN_tup, dNotN_tup, dIsN_lst, dNotN_lst, dIsN_wls, dNotN_wls, dIsN_dic, dNotN_dic, dIsN_non, dNotN_non, tru_bl, tru_non, tru_int, tru_lst, tru_wls, tru_tup, int_int, back_val', back_own', back_non]
          refine w_right (by omega) hb (by omega) (by omega) (by omega) (by omega) fun _ => ?_
          simp only [Wp_ret, Wp_no, Wp_bnd, Wp_ite, Raw.stay_val, Raw.stay_bor, Wp_m2, Wp_var, Wp_peek, Wp_move, Wp_frz, Raw.frz_own, Raw.frz_val, Raw.frz_lst, Wp_gI, Wp_gD, Wp_g1, Wp_g2I, Raw.dt_val, Raw.dt_own, Raw.dt_bor, Wp_isa, Wp_bool, Wp_tru, Wp_not, Wp_and, Wp_or, Wp_ofB, Wp_if, Wp_andV, Wp_orV, Wp_un, Wp_nil, Wp_cons, Raw.datas_nil, Raw.datas_cons, Raw.vals_nil, Raw.vals_cons, Wp_tup, Wp_lst, Wp_call, Wp_callO, Wp_set, Wp_app, Wp_pop, Wp_rev, Wp_range1, Wp_range2, Wp_err, Wp_erris, Ws_nx, Ws_bk, Ws_ct, Ws_retN, Ws_expr, Ws_ret, Ws_if, Ws_set, Ws_par, Ws_unp, Ws_raise, Ws_raise0, dEq_ii, dNe_ii, dLen_lst, dLen_wls, dLen_tup, ix_lst, ix_wls, ix_tup', enF, gSet, gTupD, gsCons, gsNil, ↓reduceIte, List.getElem?_cons_zero, List.getElem?_cons_succ, List.getElem?_nil, List.set_cons_zero, List.set_cons_succ, List.set_nil, List.length_cons, List.length_nil, List.replicate, List.cons_append, List.nil_append, List.append_nil, List.take, Option.map_some, decide_eq_true_eq, decide_eq_false_iff_not, Bool.not_eq_true', Bool.not_eq_false', Bool.not_not, Bool.not_true, Bool.not_false, true_and, and_true, false_and, and_false, imp_self, implies_true, not_false_eq_true, not_true_eq_false, true_implies, false_implies, Bool.true_eq_false, Bool.false_eq_true, forall_const, Nat.reduceAdd, Nat.reduceSub, Nat.reduceEqDiff, Nat.reduceLeDiff, mulOk_iff, divOk_iff, modOk_iff, powOk_iff, small_iff, isa_int_non, isa_int_bl, isa_int_int, isa_int_str, isa_int_tup, isa_int_lst, isa_int_wls, isa_int_dic, isa_bool_non, isa_bool_bl, isa_bool_int, isa_bool_str, isa_bool_tup, isa_bool_lst, isa_bool_wls, isa_bool_dic, isa_str_non, isa_str_bl, isa_str_int, isa_str_str, isa_str_tup, isa_str_lst, isa_str_wls, isa_str_dic, isa_list_non, isa_list_bl, isa_list_int, isa_list_str, isa_list_tup, isa_list_lst, isa_list_wls, isa_list_dic, isa_tuple_non, isa_tuple_bl, isa_tuple_int, isa_tuple_str, isa_tuple_tup, isa_tuple_lst, isa_tuple_wls, isa_tuple_dic, isa_list_tuple_non, isa_list_tuple_bl, isa_list_tuple_int, isa_list_tuple_str, isa_list_tuple_tup, isa_list_tuple_lst, isa_list_tuple_wls, isa_list_tuple_dic, isa_int_str_non, isa_int_str_bl, isa_int_str_int, isa_int_str_str, isa_int_str_tup, isa_int_str_lst, isa_int_str_wls, isa_int_str_dic, isa_str_int_non, isa_str_int_bl, isa_str_int_int, isa_str_int_str, isa_str_int_tup, isa_str_int_lst, isa_str_int_wls, isa_str_int_dic, isa_tuple_list_non, isa_tuple_list_bl, isa_tuple_list_int, isa_tuple_list_str, isa_tuple_list_tup, isa_tuple_list_lst, isa_tuple_list_wls, isa_tuple_list_dic, dIsN_bl, dNotN_bl, dIsN_int, dNotN_int, dIsN_str, dNotN_str, dIsN_tup, dNotN_tup, dIsN_lst, dNotN_lst, dIsN_wls, dNotN_wls, dIsN_dic, dNotN_dic, dIsN_non, dNotN_non, tru_bl, tru_non, tru_int, tru_lst, tru_wls, tru_tup, int_int, back_val', back_own', back_non]
          exact ⟨_, _, .inr rfl, rfl⟩
      · rintro ρ ⟨s5, s7, hs, rfl⟩
        refine hK8 _ ?_
        refine ws_seq fun K9 hK9 => ?_
        simp only [Wp_ret, Wp_no, Wp_bnd, Wp_ite, Raw.stay_val, Raw.stay_bor, Wp_m2, Wp_var, Wp_peek, Wp_move, Wp_frz, Raw.frz_own, Raw.frz_val, Raw.frz_lst, Wp_gI, Wp_gD, Wp_g1, Wp_g2I, Raw.dt_val, Raw.dt_own, Raw.dt_bor, Wp_isa, Wp_bool, Wp_tru, Wp_not, Wp_and, Wp_or, Wp_ofB, Wp_if, Wp_andV, Wp_orV, Wp_un, Wp_nil, Wp_cons, Raw.datas_nil, Raw.datas_cons, Raw.vals_nil, Raw.vals_cons, Wp_tup, Wp_lst, Wp_call, Wp_callO, Wp_set, Wp_app, Wp_pop, Wp_rev, Wp_range1, Wp_range2, Wp_err, Wp_erris, Ws_nx, Ws_bk, Ws_ct, Ws_retN, Ws_expr, Ws_ret, Ws_if, Ws_set, Ws_par, Ws_unp, Ws_raise, Ws_raise0, dEq_ii, dNe_ii, dLen_lst, dLen_wls, dLen_tup, ix_lst, ix_wls, ix_tup', enF, gSet, gTupD, gsCons, gsNil, ↓reduceIte, List.getElem?_cons_zero, List.getElem?_cons_succ, List.getElem?_nil, List.set_cons_zero, List.set_cons_succ, List.set_nil, List.length_cons, List.length_nil, List.replicate, List.cons_append, List.nil_append, List.append_nil, List.take, Option.map_some, decide_eq_true_eq, decide_eq_false_iff_not, Bool.not_eq_true', Bool.not_eq_false', Bool.not_not, Bool.not_true, Bool.not_false, true_and, and_true, false_and, and_false, imp_self, implies_true, not_false_eq_true, not_true_eq_false, true_implies, false_implies, Bool.true_eq_false, Bool.false_eq_true, forall_const, Nat.reduceAdd, Nat.reduceSub, Nat.reduceEqDiff, Nat.reduceLeDiff, mulOk_iff, divOk_iff, modOk_iff, powOk_iff, small_iff, isa_int_non, isa_int_bl, isa_int_int, isa_int_str, isa_int_tup, isa_int_lst, isa_int_wls, isa_int_dic, isa_bool_non, isa_bool_bl, isa_bool_int, isa_bool_str, isa_bool_tup, isa_bool_lst, isa_bool_wls, isa_bool_dic, isa_str_non, isa_str_bl, isa_str_int, isa_str_str, isa_str_tup, isa_str_lst, isa_str_wls, isa_str_dic, isa_list_non, isa_list_bl, isa_list_int, isa_list_str, isa_list_tup, isa_list_lst, isa_list_wls, isa_list_dic, isa_tuple_non, isa_tuple_bl, isa_tuple_int, isa_tuple_str, isa_tuple_tup, isa_tuple_lst, isa_tuple_wls, isa_tuple_dic, isa_list_tuple_non, isa_list_tuple_bl, isa_list_tuple_int, isa_list_tuple_str, isa_list_tuple_tup, isa_list_tuple_lst, isa_list_tuple_wls, isa_list_tuple_dic, isa_int_str_non, isa_int_str_bl, isa_int_str_int, isa_int_str_str, isa_int_str_tup, isa_int_str_lst, isa_int_str_wls, isa_int_str_dic, isa_str_int_non, isa_str_int_bl, isa_str_int_int, isa_str_int_str, isa_str_int_tup, isa_str_int_lst, isa_str_int_wls, isa_str_int_dic, isa_tuple_list_non, isa_tuple_list_bl, isa_tuple_list_int, isa_tuple_list_str, isa_tuple_list_tup, isa_tuple_list_lst, isa_tuple_list_wls, isa_tuple_list_dic, dIsN_bl, dNotN_bl, dIsN_int, dNotN_int, dIsN_str, dNotN_str, dIsN_tup, dNotN_tup, dIsN_lst, dNotN_lst, dIsN_wls, dNotN_wls, dIsN_dic, dNotN_dic, dIsN_non, dNotN_non, tru_bl, tru_non, tru_int, tru_lst, tru_wls, tru_tup, int_int, back_val', back_own', back_non]
        refine w_take (by decide) fun x5 ys5 g5 g5' => ?_
        obtain ⟨bad, hat, hbad⟩ : ∃ d, L2.atI [Dt.int 0, .int (-1), .bl true, .non] x5 = some d ∧ badV d := by
          have : x5 = 0 ∨ x5 = 1 ∨ x5 = 2 ∨ x5 = 3 := by omega
          rcases this with rfl | rfl | rfl | rfl
          · exact ⟨_, rfl, .inl rfl⟩
          · exact ⟨_, rfl, .inr (.inl rfl)⟩
          · exact ⟨_, rfl, .inr (.inr (.inl rfl))⟩
          · exact ⟨_, rfl, .inr (.inr (.inr rfl))⟩
        simp only [Wp_ret, Wp_no, Wp_bnd, Wp_ite, Raw.stay_val, Raw.stay_bor, Wp_m2, Wp_var, Wp_peek, Wp_move, Wp_frz, Raw.frz_own, Raw.frz_val, Raw.frz_lst, Wp_gI, Wp_gD, Wp_g1, Wp_g2I, Raw.dt_val, Raw.dt_own, Raw.dt_bor, Wp_isa, Wp_bool, Wp_tru, Wp_not, Wp_and, Wp_or, Wp_ofB, Wp_if, Wp_andV, Wp_orV, Wp_un, Wp_nil, Wp_cons, Raw.datas_nil, Raw.datas_cons, Raw.vals_nil, Raw.vals_cons, Wp_tup, Wp_lst, Wp_call, Wp_callO, Wp_set, Wp_app, Wp_pop, Wp_rev, Wp_range1, Wp_range2, Wp_err, Wp_erris, Ws_nx, Ws_bk, Ws_ct, Ws_retN, Ws_expr, Ws_ret, Ws_if, Ws_set, Ws_par, Ws_unp, Ws_raise, Ws_raise0, dEq_ii, dNe_ii, dLen_lst, dLen_wls, dLen_tup, ix_lst, ix_wls, ix_tup', enF, gSet, gTupD, gsCons, gsNil, ↓reduceIte, List.getElem?_cons_zero, List.getElem?_cons_succ, List.getElem?_nil, List.set_cons_zero, List.set_cons_succ, List.set_nil, List.length_cons, List.length_nil, List.replicate, List.cons_append, List.nil_append, List.append_nil, List.take, Option.map_some, decide_eq_true_eq, decide_eq_false_iff_not, Bool.not_eq_true', Bool.not_eq_false', Bool.not_not, Bool.not_true, Bool.not_false, true_and, and_true, false_and, and_false, imp_self, implies_true, not_false_eq_true, not_true_eq_false, true_implies, false_implies, Bool.true_eq_false, Bool.false_eq_true, forall_const, Nat.reduceAdd, Nat.reduceSub, Nat.reduceEqDiff, Nat.reduceLeDiff, mulOk_iff, divOk_iff, modOk_iff, powOk_iff, small_iff, isa_int_non, isa_int_bl, isa_int_int, isa_int_str, isa_int_tup, isa_int_lst, isa_int_wls, isa_int_dic, isa_bool_non, isa_bool_bl, isa_bool_int, isa_bool_str, isa_bool_tup, isa_bool_lst, isa_bool_wls, isa_bool_dic, isa_str_non, isa_str_bl, isa_str_int, isa_str_str, isa_str_tup, isa_str_lst, isa_str_wls, isa_str_dic, isa_list_non, isa_list_bl, isa_list_int, isa_list_str, isa_list_tup, isa_list_lst, isa_list_wls, isa_list_dic, isa_tuple_non, isa_tuple_bl, isa_tuple_int, isa_tuple_str, isa_tuple_tup, isa_tuple_lst, isa_tuple_wls, isa_tuple_dic, isa_list_tuple_non, isa_list_tuple_bl, isa_list_tuple_int, isa_list_tuple_str, isa_list_tuple_tup, isa_list_tuple_lst, isa_list_tuple_wls, isa_list_tuple_dic, isa_int_str_non, isa_int_str_bl, isa_int_str_int, isa_int_str_str, isa_int_str_tup, isa_int_str_lst, isa_int_str_wls, isa_int_str_dic, isa_str_int_non, isa_str_int_bl, isa_str_int_int, isa_str_int_str, isa_str_int_tup, isa_str_int_lst, isa_str_int_wls, isa_str_int_dic, isa_tuple_list_non, isa_tuple_list_bl, isa_tuple_list_int, isa_tuple_list_str, isa_tuple_list_tup, isa_tuple_list_lst, isa_tuple_list_wls, isa_tuple_list_dic, dIsN_bl, dNotN_bl, dIsN_int, dNotN_int, dIsN_str, dNotN_str, dIsN_tup, dNotN_tup, dIsN_lst, dNotN_lst, dIsN_wls, dNotN_wls, dIsN_dic, dNotN_dic, dIsN_non, dNotN_non, tru_bl, tru_non, tru_int, tru_lst, tru_wls, tru_tup, int_int, back_val', back_own', back_non, hat]
        refine hK9 _ ?_
        simp only [Wp_ret, Wp_no, Wp_bnd, Wp_ite, Raw.stay_val, Raw.stay_bor, Wp_m2, Wp_var, Wp_peek, Wp_move, Wp_frz, Raw.frz_own, Raw.frz_val, Raw.frz_lst, Wp_gI, Wp_gD, Wp_g1, Wp_g2I, Raw.dt_val, Raw.dt_own, Raw.dt_bor, Wp_isa, Wp_bool, Wp_tru, Wp_not, Wp_and, Wp_or, Wp_ofB, Wp_if, Wp_andV, Wp_orV, Wp_un, Wp_nil, Wp_cons, Raw.datas_nil, Raw.datas_cons, Raw.vals_nil, Raw.vals_cons, Wp_tup, Wp_lst, Wp_call, Wp_callO, Wp_set, Wp_app, Wp_pop, Wp_rev, Wp_range1, Wp_range2, Wp_err, Wp_erris, Ws_nx, Ws_bk, Ws_ct, Ws_retN, Ws_expr, Ws_ret, Ws_if, Ws_set, Ws_par, Ws_unp, Ws_raise, Ws_raise0, dEq_ii, dNe_ii, dLen_lst, dLen_wls, dLen_tup, ix_lst, ix_wls, ix_tup', enF, gSet, gTupD, gsCons, gsNil, ↓reduceIte, List.getElem?_cons_zero, List.getElem?_cons_succ, List.getElem?_nil, List.set_cons_zero, List.set_cons_succ, List.set_nil, List.length_cons, List.length_nil, List.replicate, List.cons_append, List.nil_append, List.append_nil, List.take, Option.map_some, decide_eq_true_eq, decide_eq_false_iff_not, Bool.not_eq_true', Bool.not_eq_false', Bool.not_not, Bool.not_true, Bool.not_false, true_and, and_true, false_and, and_false, imp_self, implies_true, not_false_eq_true, not_true_eq_false, true_implies, false_implies, Bool.true_eq_false, Bool.false_eq_true, forall_const, Nat.reduceAdd, Nat.reduceSub, Nat.reduceEqDiff, Nat.reduceLeDiff, mulOk_iff, divOk_iff, modOk_iff, powOk_iff, small_iff, isa_int_non, isa_int_bl, isa_int_int, isa_int_str, isa_int_tup, isa_int_lst, isa_int_wls, isa_int_dic, isa_bool_non, isa_bool_bl, isa_bool_int, isa_bool_str, isa_bool_tup, isa_bool_lst, isa_bool_wls, isa_bool_dic, isa_str_non, isa_str_bl, isa_str_int, isa_str_str, isa_str_tup, isa_str_lst, isa_str_wls, isa_str_dic, isa_list_non, isa_list_bl, isa_list_int, isa_list_str, isa_list_tup, isa_list_lst, isa_list_wls, isa_list_dic, isa_tuple_non, isa_tuple_bl, isa_tuple_int, isa_tuple_str, isa_tuple_tup, isa_tuple_lst, isa_tuple_wls, isa_tuple_dic, isa_list_tuple_non, isa_list_tuple_bl, isa_list_tuple_int, isa_list_tuple_str, isa_list_tuple_tup, isa_list_tuple_lst, isa_list_tuple_wls, isa_list_tuple_dic, isa_int_str_non, isa_int_str_bl, isa_int_str_int, isa_int_str_str, isa_int_str_tup, isa_int_str_lst, isa_int_str_wls, isa_int_str_dic, isa_str_int_non, isa_str_int_bl, isa_str_int_int, isa_str_int_str, isa_str_int_tup, isa_str_int_lst, isa_str_int_wls, isa_str_int_dic, isa_tuple_list_non, isa_tuple_list_bl, isa_tuple_list_int, isa_tuple_list_str, isa_tuple_list_tup, isa_tuple_list_lst, isa_tuple_list_wls, isa_tuple_list_dic, dIsN_bl, dNotN_bl, dIsN_int, dNotN_int, dIsN_str, dNotN_str, dIsN_tup, dNotN_tup, dIsN_lst, dNotN_lst, dIsN_wls, dNotN_wls, dIsN_dic, dNotN_dic, dIsN_non, dNotN_non, tru_bl, tru_non, tru_int, tru_lst, tru_wls, tru_tup, int_int, back_val', back_own', back_non]
        exact w_refusals hb hbad fun _ => rfl
  refine ⟨fun _ => ?_, fun _ => ?_⟩
  · refine ⟨by decide, ?_⟩
    have e6 : (10 : Int) ^ Int.toNat 6 = 1000000 := by decide
    exact key _ (by omega) (by omega)
  · exact key _ (by omega) (by omega)
end
end K79
namespace K79
open PySem PySem.Spec L2 FL
open PyProof.Rows hiding St
theorem all_mk {l : PySem.W.OpenLaw} {w : World} {K : Fg} {h : Heap} {mg : Mg} {fa : Addr} {c_LinksError c_BadNumber i_BadNumber : Addr} (X : K.In h) (G : h.Ns mainGlobals mg) (hfa : mg "law" = some (.ref fa))
    {nm_BadNumber q_BadNumber : Str} {N_BadNumber : Addr} {bs_BadNumber : List Value} {sn_BadNumber : List Str} {sb_BadNumber : List Value} {ab_BadNumber : Bool} {co_BadNumber : Option Bool} {dd_BadNumber : Option Addr} {m0_BadNumber m1_BadNumber m2_BadNumber m3_BadNumber m5_BadNumber : Option Value}
    {od_i_BadNumber an_i_BadNumber : Option Addr} {sl_i_BadNumber : Array (Option Value)} {oc_i_BadNumber dc_i_BadNumber pm_i_BadNumber cd_i_BadNumber ct_i_BadNumber : Value}
    {f_is_number : Addr} {od_is_number an_is_number : Option Addr} {sl_is_number : Array (Option Value)} {oc_is_number kV_is_number dc_is_number pm_is_number cd_is_number ct_is_number : Value}
    {f_check_number : Addr} {od_check_number an_check_number : Option Addr} {sl_check_number : Array (Option Value)} {oc_check_number kV_check_number dc_check_number pm_check_number cd_check_number ct_check_number : Value}
    {f_view_start : Addr} {od_view_start an_view_start : Option Addr} {sl_view_start : Array (Option Value)} {oc_view_start kV_view_start dc_view_start pm_view_start cd_view_start ct_view_start : Value}
    {f_view_at : Addr} {od_view_at an_view_at : Option Addr} {sl_view_at : Array (Option Value)} {oc_view_at kV_view_at dc_view_at pm_view_at cd_view_at ct_view_at : Value}
    {f_leader_of : Addr} {od_leader_of an_leader_of : Option Addr} {sl_leader_of : Array (Option Value)} {oc_leader_of kV_leader_of dc_leader_of pm_leader_of cd_leader_of ct_leader_of : Value}
    {f_law_pool : Addr} {od_law_pool an_law_pool : Option Addr} {sl_law_pool : Array (Option Value)} {oc_law_pool kV_law_pool dc_law_pool pm_law_pool cd_law_pool ct_law_pool : Value}
    {f_law_take : Addr} {od_law_take an_law_take : Option Addr} {sl_law_take : Array (Option Value)} {oc_law_take kV_law_take dc_law_take pm_law_take cd_law_take ct_law_take : Value}
    {f_law_int : Addr} {od_law_int an_law_int : Option Addr} {sl_law_int : Array (Option Value)} {oc_law_int kV_law_int dc_law_int pm_law_int cd_law_int ct_law_int : Value}
    {f_law_fault : Addr} {od_law_fault an_law_fault : Option Addr} {sl_law_fault : Array (Option Value)} {oc_law_fault kV_law_fault dc_law_fault pm_law_fault cd_law_fault ct_law_fault : Value}
    {f_law_refusals_right : Addr} {od_law_refusals_right an_law_refusals_right : Option Addr} {sl_law_refusals_right : Array (Option Value)} {oc_law_refusals_right kV_law_refusals_right dc_law_refusals_right pm_law_refusals_right cd_law_refusals_right ct_law_refusals_right : Value}
    {f_law_starts : Addr} {od_law_starts an_law_starts : Option Addr} {sl_law_starts : Array (Option Value)} {oc_law_starts kV_law_starts dc_law_starts pm_law_starts cd_law_starts ct_law_starts : Value}
    {f_law_in : Addr} {od_law_in an_law_in : Option Addr} {sl_law_in : Array (Option Value)} {oc_law_in kV_law_in dc_law_in pm_law_in cd_law_in ct_law_in : Value}
    {f_law_clock_right : Addr} {od_law_clock_right an_law_clock_right : Option Addr} {sl_law_clock_right : Array (Option Value)} {oc_law_clock_right kV_law_clock_right dc_law_clock_right pm_law_clock_right cd_law_clock_right ct_law_clock_right : Value}
    {f_law : Addr} {od_law an_law : Option Addr} {sl_law : Array (Option Value)} {oc_law kV_law dc_law pm_law cd_law ct_law : Value}
    (aC_LinksError : PySem.W.nsIn K mainGlobals "LinksError" = some (some (.ref c_LinksError)))
    (aC_BadNumber : PySem.W.nsIn K mainGlobals "BadNumber" = some (some (.ref c_BadNumber)))
    (eB_LinksError : PySem.W.subIn K (.ref c_LinksError) (.type "BaseException") = some true)
    (tC_LinksError : PySem.W.typeIn K (.ref c_LinksError) = some (.type "type"))
    (ga_LinksError : PySem.W.findIn K (.ref c_LinksError) "__getattribute__" = some (some (.builtin "BaseException.__getattribute__")))
    (gg_LinksError : PySem.W.findIn K (.ref c_LinksError) "__getattr__" = some none)
    (hd_LinksError : PySem.W.hasDictIn K c_LinksError = true)
    (eB_BadNumber : PySem.W.subIn K (.ref c_BadNumber) (.type "BaseException") = some true)
    (tC_BadNumber : PySem.W.typeIn K (.ref c_BadNumber) = some (.type "type"))
    (ga_BadNumber : PySem.W.findIn K (.ref c_BadNumber) "__getattribute__" = some (some (.builtin "BaseException.__getattribute__")))
    (gg_BadNumber : PySem.W.findIn K (.ref c_BadNumber) "__getattr__" = some none)
    (hd_BadNumber : PySem.W.hasDictIn K c_BadNumber = true)
    (ha_BadNumber : PySem.W.findIn K (.ref c_BadNumber) "__class__" = some (some (.builtin "object.__class__")))
    (hm_BadNumber : PySem.W.mroIn K c_BadNumber (.type "object") = some true)
    (hnO : PySem.W.specialIn K (.builtin "object.__class__") "__get__" = some (some (.builtin "getset_descriptor.__get__")))
    (htO : PySem.W.takesIn K (.builtin "object.__class__") = some true)
    (kC_BadNumber : PySem.W.keepIn K (.ref c_BadNumber) = true)
    (xL_BadNumber : K.lookup c_BadNumber = some (excClassObj nm_BadNumber q_BadNumber c_BadNumber N_BadNumber bs_BadNumber [.ref c_LinksError, .type "Exception", .type "BaseException", .type "object"] true sn_BadNumber sb_BadNumber ab_BadNumber co_BadNumber dd_BadNumber m0_BadNumber m1_BadNumber m2_BadNumber m3_BadNumber m5_BadNumber "Exception.__new__"))
    (sa_BadNumber : PySem.W.findIn K (.ref c_BadNumber) "__setattr__" = some (some (.builtin "object.__setattr__")))
    (nx_BadNumber_name : PySem.W.findIn K (.ref c_BadNumber) "name" = some none)
    (iC_BadNumber : PySem.W.findIn K (.ref c_BadNumber) "__init__" = some (some (.ref i_BadNumber)))
    (tI_BadNumber : PySem.W.typeIn K (.ref i_BadNumber) = some (.type "function"))
    (lI_BadNumber : K.lookup i_BadNumber = some ⟨oc_i_BadNumber, od_i_BadNumber, .func (PySem.W.fnOf "__init__" "BadNumber.__init__" (PySem.X_name.iA ⟨6, 17, 6, 21⟩ ⟨6, 23, 6, 27⟩) (PySem.X_name.iB ⟨7, 8, 7, 12⟩ ⟨7, 8, 7, 17⟩ ⟨7, 20, 7, 24⟩ ⟨7, 8, 7, 24⟩) PySem.X_name.iS .none .none dc_i_BadNumber pm_i_BadNumber an_i_BadNumber cd_i_BadNumber ct_i_BadNumber), sl_i_BadNumber⟩)
    (cI_BadNumber : PySem.W.codeIn K cd_i_BadNumber "BadNumber.__init__" = true)
    (no_BadNumber_name : PySem.W.findIn K (.ref c_BadNumber) "name" = some none)
    (ki_BadNumber_LinksError : PySem.W.kitOne K (.ref c_BadNumber) (.ref c_LinksError) = some true)
    (su_BadNumber_BadNumber : PySem.W.subIn K (.ref c_BadNumber) (.ref c_BadNumber) = some true)
    (z_isinstance : PySem.W.nsIn K mainGlobals "isinstance" = some none)
    (z_int : PySem.W.nsIn K mainGlobals "int" = some none)
    (z_bool : PySem.W.nsIn K mainGlobals "bool" = some none)
    (z_len : PySem.W.nsIn K mainGlobals "len" = some none)
    (z_min : PySem.W.nsIn K mainGlobals "min" = some none)
    (z_range : PySem.W.nsIn K mainGlobals "range" = some none)
    (a_is_number : PySem.W.nsIn K mainGlobals "is_number" = some (some (.ref f_is_number)))
    (l_is_number : K.lookup f_is_number = some ⟨oc_is_number, od_is_number, .func (PySem.W.fnOf "is_number" "is_number" (defArgs s_is_number) (defBody s_is_number) (defScope s_is_number) .none kV_is_number dc_is_number pm_is_number an_is_number cd_is_number ct_is_number), sl_is_number⟩)
    (c_is_number : PySem.W.codeIn K cd_is_number "is_number" = true)
    (k_is_number : PySem.W.keepIn K (.ref f_is_number) = true)
    (a_check_number : PySem.W.nsIn K mainGlobals "check_number" = some (some (.ref f_check_number)))
    (l_check_number : K.lookup f_check_number = some ⟨oc_check_number, od_check_number, .func (PySem.W.fnOf "check_number" "check_number" (defArgs s_check_number) (defBody s_check_number) (defScope s_check_number) .none kV_check_number dc_check_number pm_check_number an_check_number cd_check_number ct_check_number), sl_check_number⟩)
    (c_check_number : PySem.W.codeIn K cd_check_number "check_number" = true)
    (k_check_number : PySem.W.keepIn K (.ref f_check_number) = true)
    (a_view_start : PySem.W.nsIn K mainGlobals "view_start" = some (some (.ref f_view_start)))
    (l_view_start : K.lookup f_view_start = some ⟨oc_view_start, od_view_start, .func (PySem.W.fnOf "view_start" "view_start" (defArgs s_view_start) (defBody s_view_start) (defScope s_view_start) .none kV_view_start dc_view_start pm_view_start an_view_start cd_view_start ct_view_start), sl_view_start⟩)
    (c_view_start : PySem.W.codeIn K cd_view_start "view_start" = true)
    (k_view_start : PySem.W.keepIn K (.ref f_view_start) = true)
    (a_view_at : PySem.W.nsIn K mainGlobals "view_at" = some (some (.ref f_view_at)))
    (l_view_at : K.lookup f_view_at = some ⟨oc_view_at, od_view_at, .func (PySem.W.fnOf "view_at" "view_at" (defArgs s_view_at) (defBody s_view_at) (defScope s_view_at) .none kV_view_at dc_view_at pm_view_at an_view_at cd_view_at ct_view_at), sl_view_at⟩)
    (c_view_at : PySem.W.codeIn K cd_view_at "view_at" = true)
    (k_view_at : PySem.W.keepIn K (.ref f_view_at) = true)
    (a_leader_of : PySem.W.nsIn K mainGlobals "leader_of" = some (some (.ref f_leader_of)))
    (l_leader_of : K.lookup f_leader_of = some ⟨oc_leader_of, od_leader_of, .func (PySem.W.fnOf "leader_of" "leader_of" (defArgs s_leader_of) (defBody s_leader_of) (defScope s_leader_of) .none kV_leader_of dc_leader_of pm_leader_of an_leader_of cd_leader_of ct_leader_of), sl_leader_of⟩)
    (c_leader_of : PySem.W.codeIn K cd_leader_of "leader_of" = true)
    (k_leader_of : PySem.W.keepIn K (.ref f_leader_of) = true)
    (a_law_pool : PySem.W.nsIn K mainGlobals "_law_pool" = some (some (.ref f_law_pool)))
    (l_law_pool : K.lookup f_law_pool = some ⟨oc_law_pool, od_law_pool, .func (PySem.W.fnOf "_law_pool" "_law_pool" (defArgs s_law_pool) (defBody s_law_pool) (defScope s_law_pool) .none kV_law_pool dc_law_pool pm_law_pool an_law_pool cd_law_pool ct_law_pool), sl_law_pool⟩)
    (c_law_pool : PySem.W.codeIn K cd_law_pool "_law_pool" = true)
    (k_law_pool : PySem.W.keepIn K (.ref f_law_pool) = true)
    (a_law_take : PySem.W.nsIn K mainGlobals "_law_take" = some (some (.ref f_law_take)))
    (l_law_take : K.lookup f_law_take = some ⟨oc_law_take, od_law_take, .func (PySem.W.fnOf "_law_take" "_law_take" (defArgs s_law_take) (defBody s_law_take) (defScope s_law_take) .none kV_law_take dc_law_take pm_law_take an_law_take cd_law_take ct_law_take), sl_law_take⟩)
    (c_law_take : PySem.W.codeIn K cd_law_take "_law_take" = true)
    (k_law_take : PySem.W.keepIn K (.ref f_law_take) = true)
    (a_law_int : PySem.W.nsIn K mainGlobals "_law_int" = some (some (.ref f_law_int)))
    (l_law_int : K.lookup f_law_int = some ⟨oc_law_int, od_law_int, .func (PySem.W.fnOf "_law_int" "_law_int" (defArgs s_law_int) (defBody s_law_int) (defScope s_law_int) .none kV_law_int dc_law_int pm_law_int an_law_int cd_law_int ct_law_int), sl_law_int⟩)
    (c_law_int : PySem.W.codeIn K cd_law_int "_law_int" = true)
    (k_law_int : PySem.W.keepIn K (.ref f_law_int) = true)
    (a_law_fault : PySem.W.nsIn K mainGlobals "_law_fault" = some (some (.ref f_law_fault)))
    (l_law_fault : K.lookup f_law_fault = some ⟨oc_law_fault, od_law_fault, .func (PySem.W.fnOf "_law_fault" "_law_fault" (defArgs s_law_fault) (defBody s_law_fault) (defScope s_law_fault) .none kV_law_fault dc_law_fault pm_law_fault an_law_fault cd_law_fault ct_law_fault), sl_law_fault⟩)
    (c_law_fault : PySem.W.codeIn K cd_law_fault "_law_fault" = true)
    (k_law_fault : PySem.W.keepIn K (.ref f_law_fault) = true)
    (a_law_refusals_right : PySem.W.nsIn K mainGlobals "_law_refusals_right" = some (some (.ref f_law_refusals_right)))
    (l_law_refusals_right : K.lookup f_law_refusals_right = some ⟨oc_law_refusals_right, od_law_refusals_right, .func (PySem.W.fnOf "_law_refusals_right" "_law_refusals_right" (defArgs s_law_refusals_right) (defBody s_law_refusals_right) (defScope s_law_refusals_right) .none kV_law_refusals_right dc_law_refusals_right pm_law_refusals_right an_law_refusals_right cd_law_refusals_right ct_law_refusals_right), sl_law_refusals_right⟩)
    (c_law_refusals_right : PySem.W.codeIn K cd_law_refusals_right "_law_refusals_right" = true)
    (k_law_refusals_right : PySem.W.keepIn K (.ref f_law_refusals_right) = true)
    (a_law_starts : PySem.W.nsIn K mainGlobals "_law_starts" = some (some (.ref f_law_starts)))
    (l_law_starts : K.lookup f_law_starts = some ⟨oc_law_starts, od_law_starts, .func (PySem.W.fnOf "_law_starts" "_law_starts" (defArgs s_law_starts) (defBody s_law_starts) (defScope s_law_starts) .none kV_law_starts dc_law_starts pm_law_starts an_law_starts cd_law_starts ct_law_starts), sl_law_starts⟩)
    (c_law_starts : PySem.W.codeIn K cd_law_starts "_law_starts" = true)
    (k_law_starts : PySem.W.keepIn K (.ref f_law_starts) = true)
    (a_law_in : PySem.W.nsIn K mainGlobals "_law_in" = some (some (.ref f_law_in)))
    (l_law_in : K.lookup f_law_in = some ⟨oc_law_in, od_law_in, .func (PySem.W.fnOf "_law_in" "_law_in" (defArgs s_law_in) (defBody s_law_in) (defScope s_law_in) .none kV_law_in dc_law_in pm_law_in an_law_in cd_law_in ct_law_in), sl_law_in⟩)
    (c_law_in : PySem.W.codeIn K cd_law_in "_law_in" = true)
    (k_law_in : PySem.W.keepIn K (.ref f_law_in) = true)
    (a_law_clock_right : PySem.W.nsIn K mainGlobals "_law_clock_right" = some (some (.ref f_law_clock_right)))
    (l_law_clock_right : K.lookup f_law_clock_right = some ⟨oc_law_clock_right, od_law_clock_right, .func (PySem.W.fnOf "_law_clock_right" "_law_clock_right" (defArgs s_law_clock_right) (defBody s_law_clock_right) (defScope s_law_clock_right) .none kV_law_clock_right dc_law_clock_right pm_law_clock_right an_law_clock_right cd_law_clock_right ct_law_clock_right), sl_law_clock_right⟩)
    (c_law_clock_right : PySem.W.codeIn K cd_law_clock_right "_law_clock_right" = true)
    (k_law_clock_right : PySem.W.keepIn K (.ref f_law_clock_right) = true)
    (a_law : PySem.W.nsIn K mainGlobals "law" = some (some (.ref f_law)))
    (l_law : K.lookup f_law = some ⟨oc_law, od_law, .func (PySem.W.fnOf "law" "law" (defArgs s_law) (defBody s_law) (defScope s_law) .none kV_law dc_law pm_law an_law cd_law ct_law), sl_law⟩)
    (c_law : PySem.W.codeIn K cd_law "law" = true)
    (k_law : PySem.W.keepIn K (.ref f_law) = true)
    : ∃ fd : FuncData, (∀ (s : Shared) (v : Value), BindsTo s fd ⟨[v], []⟩ [("script", v)]) ∧ ∀ base : Heap, K.In base → base.Ns mainGlobals mg → FnOk l.prog w K mg base (L2.CX l.prog w) 7 fa fd ["script"] (spLaw K) := by
  have e := hfa.symm.trans (PySem.W.mg_of X G a_law)
  cases e
  have F_is_number := fun_mk (st := s_is_number) l_is_number c_is_number k_is_number
  have D_is_number : DfAt K mg "is_number" "is_number" s_is_number ["value"] := ⟨_, _, F_is_number, PySem.W.mg_of X G a_is_number, F_is_number.binds fun _ _ _ _ _ _ us hl => match us, hl with | [_], _ => rfl⟩
  have F_check_number := fun_mk (st := s_check_number) l_check_number c_check_number k_check_number
  have D_check_number : DfAt K mg "check_number" "check_number" s_check_number ["value", "name", "least"] := ⟨_, _, F_check_number, PySem.W.mg_of X G a_check_number, F_check_number.binds fun _ _ _ _ _ _ us hl => match us, hl with | [_, _, _], _ => rfl⟩
  have F_view_start := fun_mk (st := s_view_start) l_view_start c_view_start k_view_start
  have D_view_start : DfAt K mg "view_start" "view_start" s_view_start ["base", "view"] := ⟨_, _, F_view_start, PySem.W.mg_of X G a_view_start, F_view_start.binds fun _ _ _ _ _ _ us hl => match us, hl with | [_, _], _ => rfl⟩
  have F_view_at := fun_mk (st := s_view_at) l_view_at c_view_at k_view_at
  have D_view_at : DfAt K mg "view_at" "view_at" s_view_at ["base", "clock"] := ⟨_, _, F_view_at, PySem.W.mg_of X G a_view_at, F_view_at.binds fun _ _ _ _ _ _ us hl => match us, hl with | [_, _], _ => rfl⟩
  have F_leader_of := fun_mk (st := s_leader_of) l_leader_of c_leader_of k_leader_of
  have D_leader_of : DfAt K mg "leader_of" "leader_of" s_leader_of ["houses", "view"] := ⟨_, _, F_leader_of, PySem.W.mg_of X G a_leader_of, F_leader_of.binds fun _ _ _ _ _ _ us hl => match us, hl with | [_, _], _ => rfl⟩
  have F_law_pool := fun_mk (st := s_law_pool) l_law_pool c_law_pool k_law_pool
  have D_law_pool : DfAt K mg "_law_pool" "_law_pool" s_law_pool ["script"] := ⟨_, _, F_law_pool, PySem.W.mg_of X G a_law_pool, F_law_pool.binds fun _ _ _ _ _ _ us hl => match us, hl with | [_], _ => rfl⟩
  have F_law_take := fun_mk (st := s_law_take) l_law_take c_law_take k_law_take
  have D_law_take : DfAt K mg "_law_take" "_law_take" s_law_take ["pool", "many"] := ⟨_, _, F_law_take, PySem.W.mg_of X G a_law_take, F_law_take.binds fun _ _ _ _ _ _ us hl => match us, hl with | [_, _], _ => rfl⟩
  have F_law_int := fun_mk (st := s_law_int) l_law_int c_law_int k_law_int
  have D_law_int : DfAt K mg "_law_int" "_law_int" s_law_int ["value"] := ⟨_, _, F_law_int, PySem.W.mg_of X G a_law_int, F_law_int.binds fun _ _ _ _ _ _ us hl => match us, hl with | [_], _ => rfl⟩
  have F_law_fault := fun_mk (st := s_law_fault) l_law_fault c_law_fault k_law_fault
  have D_law_fault : DfAt K mg "_law_fault" "_law_fault" s_law_fault ["word", "base", "value"] := ⟨_, _, F_law_fault, PySem.W.mg_of X G a_law_fault, F_law_fault.binds fun _ _ _ _ _ _ us hl => match us, hl with | [_, _, _], _ => rfl⟩
  have F_law_refusals_right := fun_mk (st := s_law_refusals_right) l_law_refusals_right c_law_refusals_right k_law_refusals_right
  have D_law_refusals_right : DfAt K mg "_law_refusals_right" "_law_refusals_right" s_law_refusals_right ["bad", "base"] := ⟨_, _, F_law_refusals_right, PySem.W.mg_of X G a_law_refusals_right, F_law_refusals_right.binds fun _ _ _ _ _ _ us hl => match us, hl with | [_, _], _ => rfl⟩
  have F_law_starts := fun_mk (st := s_law_starts) l_law_starts c_law_starts k_law_starts
  have D_law_starts : DfAt K mg "_law_starts" "_law_starts" s_law_starts ["base", "many"] := ⟨_, _, F_law_starts, PySem.W.mg_of X G a_law_starts, F_law_starts.binds fun _ _ _ _ _ _ us hl => match us, hl with | [_, _], _ => rfl⟩
  have F_law_in := fun_mk (st := s_law_in) l_law_in c_law_in k_law_in
  have D_law_in : DfAt K mg "_law_in" "_law_in" s_law_in ["starts", "clock"] := ⟨_, _, F_law_in, PySem.W.mg_of X G a_law_in, F_law_in.binds fun _ _ _ _ _ _ us hl => match us, hl with | [_, _], _ => rfl⟩
  have F_law_clock_right := fun_mk (st := s_law_clock_right) l_law_clock_right c_law_clock_right k_law_clock_right
  have D_law_clock_right : DfAt K mg "_law_clock_right" "_law_clock_right" s_law_clock_right ["base", "starts", "clock"] := ⟨_, _, F_law_clock_right, PySem.W.mg_of X G a_law_clock_right, F_law_clock_right.binds fun _ _ _ _ _ _ us hl => match us, hl with | [_, _, _], _ => rfl⟩
  have F_law := fun_mk (st := s_law) l_law c_law k_law
  have D_law : DfAt K mg "law" "law" s_law ["script"] := ⟨_, _, F_law, PySem.W.mg_of X G a_law, F_law.binds fun _ _ _ _ _ _ us hl => match us, hl with | [_], _ => rfl⟩
  have T : Tx K mg c_LinksError c_BadNumber i_BadNumber :=
    { g_LinksError := PySem.W.mg_of X G aC_LinksError,
      g_BadNumber := PySem.W.mg_of X G aC_BadNumber,
      f_BadNumber := ⟨ga_BadNumber, gg_BadNumber, eB_BadNumber, hd_BadNumber⟩,
      t_BadNumber := tC_BadNumber,
      f_LinksError := ⟨ga_LinksError, gg_LinksError, eB_LinksError, hd_LinksError⟩,
      t_LinksError := tC_LinksError,
      e_BadNumber := ⟨ga_BadNumber, gg_BadNumber, eB_BadNumber, hd_BadNumber, ha_BadNumber, hnO, htO, hm_BadNumber⟩,
      x_BadNumber := ⟨PySem.W.mg_of X G aC_BadNumber, ⟨_, _, _, _, _, _, _, _, _, _, _, _, _, _, _, xL_BadNumber, by first | rfl | decide⟩, sa_BadNumber, nx_BadNumber_name, iC_BadNumber, tI_BadNumber, kC_BadNumber, eB_BadNumber, tC_BadNumber, ⟨_, _, _, _, _, _, _, _, _, _, _, _, _, _, lI_BadNumber, cI_BadNumber⟩⟩,
      no_BadNumber_name := no_BadNumber_name,
      ki_BadNumber_LinksError := ki_BadNumber_LinksError,
      su_BadNumber_BadNumber := su_BadNumber_BadNumber,
      b_isinstance := PySem.W.mg_none_of X G z_isinstance,
      b_int := PySem.W.mg_none_of X G z_int,
      b_bool := PySem.W.mg_none_of X G z_bool,
      b_len := PySem.W.mg_none_of X G z_len,
      b_min := PySem.W.mg_none_of X G z_min,
      b_range := PySem.W.mg_none_of X G z_range,
      d_is_number := D_is_number,
      d_check_number := D_check_number,
      d_view_start := D_view_start,
      d_view_at := D_view_at,
      d_leader_of := D_leader_of,
      d_law_pool := D_law_pool,
      d_law_take := D_law_take,
      d_law_int := D_law_int,
      d_law_fault := D_law_fault,
      d_law_refusals_right := D_law_refusals_right,
      d_law_starts := D_law_starts,
      d_law_in := D_law_in,
      d_law_clock_right := D_law_clock_right,
      d_law := D_law }
  exact ⟨PySem.W.fnOf "law" "law" (defArgs s_law) (defBody s_law) (defScope s_law) .none kV_law dc_law pm_law an_law cd_law ct_law, fun s v => .of_eq rfl, fun base _ _ => law_ok (okF_law T F_law) fun ns hl => law_true hl⟩
end K79
open PySem PySem.W PyProof.Rows in
set_option maxRecDepth 100000 in
set_option maxHeartbeats 0 in
theorem PySem.Challenge.cw_silentlinks_k79_views_clocks_holds : PySem.Challenge.rw_silentlinks_k79_views_clocks.Holds := by
  w_on; o_law; k_head; (case hw => w_witness2)
  k_fill
  refine L2.walk_of (l := PySem.Challenge.rw_silentlinks_k79_views_clocks) (n := 63) (k := 7) (x := "script") (CX := fun w => L2.CX PySem.Challenge.rw_silentlinks_k79_views_clocks.prog w) (sp := fun w => FL.spLaw (_ : PySem.W.Frag)) rfl (by decide) rfl ⟨rfl, by decide, by decide⟩ (fun w h Y => PySem.W.kIn_of Y) ?F (fun _ _ a ns hl _ hS => ⟨a, ns, rfl, hS, hl, fun _ => rfl⟩) (fun _ _ _ _ _ z => FL.law_cx z)
  case F =>
    intro w mg fa h KX G hmg
    refine' K79.all_mk KX G hmg ?aC_LinksError ?aC_BadNumber ?eB_LinksError ?tC_LinksError ?ga_LinksError ?gg_LinksError ?hd_LinksError ?eB_BadNumber ?tC_BadNumber ?ga_BadNumber ?gg_BadNumber ?hd_BadNumber ?ha_BadNumber ?hm_BadNumber ?hnO ?htO ?kC_BadNumber ?xL_BadNumber ?sa_BadNumber ?nx_BadNumber_name ?iC_BadNumber ?tI_BadNumber ?lI_BadNumber ?cI_BadNumber ?no_BadNumber_name ?ki_BadNumber_LinksError ?su_BadNumber_BadNumber ?z_isinstance ?z_int ?z_bool ?z_len ?z_min ?z_range ?a_is_number ?l_is_number ?c_is_number ?k_is_number ?a_check_number ?l_check_number ?c_check_number ?k_check_number ?a_view_start ?l_view_start ?c_view_start ?k_view_start ?a_view_at ?l_view_at ?c_view_at ?k_view_at ?a_leader_of ?l_leader_of ?c_leader_of ?k_leader_of ?a_law_pool ?l_law_pool ?c_law_pool ?k_law_pool ?a_law_take ?l_law_take ?c_law_take ?k_law_take ?a_law_int ?l_law_int ?c_law_int ?k_law_int ?a_law_fault ?l_law_fault ?c_law_fault ?k_law_fault ?a_law_refusals_right ?l_law_refusals_right ?c_law_refusals_right ?k_law_refusals_right ?a_law_starts ?l_law_starts ?c_law_starts ?k_law_starts ?a_law_in ?l_law_in ?c_law_in ?k_law_in ?a_law_clock_right ?l_law_clock_right ?c_law_clock_right ?k_law_clock_right ?a_law ?l_law ?c_law ?k_law
    (case aC_LinksError => first | k_is | rfl)
    (case aC_BadNumber => first | k_is | rfl)
    (case eB_LinksError => first | k_is | rfl)
    (case tC_LinksError => first | k_is | rfl)
    (case ga_LinksError => first | k_is | rfl)
    (case gg_LinksError => first | k_is | rfl)
    (case hd_LinksError => first | k_is | rfl)
    (case eB_BadNumber => first | k_is | rfl)
    (case tC_BadNumber => first | k_is | rfl)
    (case ga_BadNumber => first | k_is | rfl)
    (case gg_BadNumber => first | k_is | rfl)
    (case hd_BadNumber => first | k_is | rfl)
    (case ha_BadNumber => first | k_is | rfl)
    (case hm_BadNumber => first | k_is | rfl)
    (case hnO => first | k_is | rfl)
    (case htO => first | k_is | rfl)
    (case kC_BadNumber => first | k_is | rfl)
    (case xL_BadNumber => first | k_is | rfl)
    (case sa_BadNumber => first | k_is | rfl)
    (case nx_BadNumber_name => first | k_is | rfl)
    (case iC_BadNumber => first | k_is | rfl)
    (case tI_BadNumber => first | k_is | rfl)
    (case lI_BadNumber => first | k_is | rfl)
    (case cI_BadNumber => first | k_is | rfl)
    (case no_BadNumber_name => first | k_is | rfl)
    (case ki_BadNumber_LinksError => first | k_is | rfl)
    (case su_BadNumber_BadNumber => first | k_is | rfl)
    (case z_isinstance => first | k_is | rfl)
    (case z_int => first | k_is | rfl)
    (case z_bool => first | k_is | rfl)
    (case z_len => first | k_is | rfl)
    (case z_min => first | k_is | rfl)
    (case z_range => first | k_is | rfl)
    (case a_is_number => first | k_is | rfl)
    (case l_is_number => first | k_is | rfl)
    (case c_is_number => first | k_is | rfl)
    (case k_is_number => first | k_is | rfl)
    (case a_check_number => first | k_is | rfl)
    (case l_check_number => first | k_is | rfl)
    (case c_check_number => first | k_is | rfl)
    (case k_check_number => first | k_is | rfl)
    (case a_view_start => first | k_is | rfl)
    (case l_view_start => first | k_is | rfl)
    (case c_view_start => first | k_is | rfl)
    (case k_view_start => first | k_is | rfl)
    (case a_view_at => first | k_is | rfl)
    (case l_view_at => first | k_is | rfl)
    (case c_view_at => first | k_is | rfl)
    (case k_view_at => first | k_is | rfl)
    (case a_leader_of => first | k_is | rfl)
    (case l_leader_of => first | k_is | rfl)
    (case c_leader_of => first | k_is | rfl)
    (case k_leader_of => first | k_is | rfl)
    (case a_law_pool => first | k_is | rfl)
    (case l_law_pool => first | k_is | rfl)
    (case c_law_pool => first | k_is | rfl)
    (case k_law_pool => first | k_is | rfl)
    (case a_law_take => first | k_is | rfl)
    (case l_law_take => first | k_is | rfl)
    (case c_law_take => first | k_is | rfl)
    (case k_law_take => first | k_is | rfl)
    (case a_law_int => first | k_is | rfl)
    (case l_law_int => first | k_is | rfl)
    (case c_law_int => first | k_is | rfl)
    (case k_law_int => first | k_is | rfl)
    (case a_law_fault => first | k_is | rfl)
    (case l_law_fault => first | k_is | rfl)
    (case c_law_fault => first | k_is | rfl)
    (case k_law_fault => first | k_is | rfl)
    (case a_law_refusals_right => first | k_is | rfl)
    (case l_law_refusals_right => first | k_is | rfl)
    (case c_law_refusals_right => first | k_is | rfl)
    (case k_law_refusals_right => first | k_is | rfl)
    (case a_law_starts => first | k_is | rfl)
    (case l_law_starts => first | k_is | rfl)
    (case c_law_starts => first | k_is | rfl)
    (case k_law_starts => first | k_is | rfl)
    (case a_law_in => first | k_is | rfl)
    (case l_law_in => first | k_is | rfl)
    (case c_law_in => first | k_is | rfl)
    (case k_law_in => first | k_is | rfl)
    (case a_law_clock_right => first | k_is | rfl)
    (case l_law_clock_right => first | k_is | rfl)
    (case c_law_clock_right => first | k_is | rfl)
    (case k_law_clock_right => first | k_is | rfl)
    (case a_law => first | k_is | rfl)
    (case l_law => first | k_is | rfl)
    (case c_law => first | k_is | rfl)
    (case k_law => first | k_is | rfl)
