import PyProof.Rows.All
import Wide.All
import OpenK.AllK
import Wide.FinOn
import HandS.ForMost
import HandS.Flow
import HandS.Deep
import HandS.TupAny
import HandS.TupMul
import HandS.IsInst
import HandS.Defaults
import PyProof.NeData
import HandS.More
import HandS.Style
import KE.GoesEnum
import HandS.SetBool
import HandS.SetKeys
import HandS.Strs
import HandS.MakeKwOnly
import HandS.TupSets
import HandS.Sort
import HandS.Ends
import HandS.HeadHook2
import HandS.Head0
import HandS.Head1
import HandS.Head2
import HandS.HeadEnd
import PySem.Challenge.RW_handclaims_k02_conditions_or_none
import KE.KStateDown
set_option Elab.async false
set_option linter.all false
set_option maxRecDepth 100000
set_option autoImplicit false
/-! HC, part A: data in the abstract heap, slots that own their object, readings of expressions and statements over data. -/
namespace HC
open PySem PySem.Spec PyProof.Rows L2

abbrev D := PyData
abbrev St := L2.St
structure Sl where
  d : D
  own : Bool
abbrev Env := List (Option Sl)
inductive Kd where
  | sh | fr | bw (i : Nat)

def kD : Key → D
  | .inl i => .int i
  | .inr x => .str x

mutual
inductive Rp (K : PySem.W.Frag) (H : Hp) : V → D → Prop
  | non : Rp K H .non .none
  | bl (b : Bool) : Rp K H (.bl b) (.bool b)
  | int (i : Int) : Rp K H (.int i) (.int i)
  | str (x : Str) : Rp K H (.str x) (.str x)
  | lst {a : Addr} {xs : List V} {ds : List D} : Rd H a (.lst xs) → RpAll K H xs ds → Rp K H (.ref a) (.list ds)
  | tup {a : Addr} {xs : List V} {ds : List D} : SqT K H a xs → RpAll K H xs ds → Rp K H (.ref a) (.tuple ds)
  | dct {a : Addr} {kvs : List (Key × V)} {ds : List (D × D)} : Rd H a (.dK kvs) → RpKv K H kvs ds → Rp K H (.ref a) (.dict ds)
inductive RpAll (K : PySem.W.Frag) (H : Hp) : List V → List D → Prop
  | nil : RpAll K H [] []
  | cons {v : V} {vs : List V} {d : D} {ds : List D} : Rp K H v d → RpAll K H vs ds → RpAll K H (v :: vs) (d :: ds)
inductive RpKv (K : PySem.W.Frag) (H : Hp) : List (Key × V) → List (D × D) → Prop
  | nil : RpKv K H [] []
  | cons {k : Key} {v : V} {vs : List (Key × V)} {d : D} {ds : List (D × D)} : Rp K H v d → RpKv K H vs ds → RpKv K H ((k, v) :: vs) ((kD k, d) :: ds)
end

theorem sqT_same {K : PySem.W.Frag} {H H' : Hp} {a : Addr} {xs : List V} (e : Same H H') (h : SqT K H a xs) : SqT K H' a xs := by
  rcases h with (h | ⟨o, h⟩) | h
  · exact .inl (.inl (e _ _ h))
  · exact .inl (.inr ⟨o, e _ _ h⟩)
  · exact .inr h
theorem rd_same {H H' : Hp} {a : Addr} {u : HO} (e : Same H H') (h : Rd H a u) : Rd H' a u := by
  rcases h with h | ⟨o, h⟩
  · exact .inl (e _ _ h)
  · exact .inr ⟨o, e _ _ h⟩

mutual
theorem Rp.mono {K : PySem.W.Frag} {H H' : Hp} (e : Same H H') : ∀ (d : D) (v : V), Rp K H v d → Rp K H' v d
  | .none, _, h => by cases h; exact .non
  | .bool b, _, h => by cases h; exact .bl b
  | .int i, _, h => by cases h; exact .int i
  | .str x, _, h => by cases h; exact .str x
  | .list ds, _, h => by
    cases h with
    | lst hs ha => exact .lst (rd_same e hs) (RpAll.mono e ds _ ha)
  | .tuple ds, _, h => by
    cases h with
    | tup hs ha => exact .tup (sqT_same e hs) (RpAll.mono e ds _ ha)
  | .dict ds, _, h => by
    cases h with
    | dct hs ha => exact .dct (rd_same e hs) (RpKv.mono e ds _ ha)
theorem RpAll.mono {K : PySem.W.Frag} {H H' : Hp} (e : Same H H') : ∀ (ds : List D) (vs : List V), RpAll K H vs ds → RpAll K H' vs ds
  | [], _, h => by cases h; exact .nil
  | d :: ds, _, h => by
    cases h with
    | cons h1 h2 => exact .cons (Rp.mono e d _ h1) (RpAll.mono e ds _ h2)
theorem RpKv.mono {K : PySem.W.Frag} {H H' : Hp} (e : Same H H') : ∀ (ds : List (D × D)) (vs : List (Key × V)), RpKv K H vs ds → RpKv K H' vs ds
  | [], _, h => by cases h; exact .nil
  | (k, d) :: ds, _, h => by
    cases h with
    | cons h1 h2 => exact .cons (Rp.mono e d _ h1) (RpKv.mono e ds _ h2)
end

theorem RpAll.length {K : PySem.W.Frag} {H : Hp} : ∀ {vs : List V} {ds : List D}, RpAll K H vs ds → vs.length = ds.length
  | _, [], h => by cases h; rfl
  | _, d :: ds, h => by
    cases h with
    | cons _ h2 => exact congrArg Nat.succ h2.length
theorem RpAll.get {K : PySem.W.Frag} {H : Hp} : ∀ {vs : List V} {ds : List D} {i : Nat} {d : D}, RpAll K H vs ds → ds[i]? = some d → ∃ v, vs[i]? = some v ∧ Rp K H v d
  | _, [], _, _, h, e => by simp at e
  | _, d :: ds, 0, _, h, e => by
    cases h with
    | cons h1 _ => simp at e; subst e; exact ⟨_, rfl, h1⟩
  | _, d :: ds, i + 1, _, h, e => by
    cases h with
    | cons _ h2 => exact RpAll.get (i := i) h2 (by simpa using e)
theorem RpAll.getV {K : PySem.W.Frag} {H : Hp} : ∀ {vs : List V} {ds : List D} {i : Nat} {v : V}, RpAll K H vs ds → vs[i]? = some v → ∃ d, ds[i]? = some d ∧ Rp K H v d
  | _, [], i, _, h, e => by cases h; simp at e
  | _, d :: ds, 0, _, h, e => by
    cases h with
    | cons h1 _ => simp at e; subst e; exact ⟨_, rfl, h1⟩
  | _, d :: ds, i + 1, _, h, e => by
    cases h with
    | cons _ h2 =>
      obtain ⟨d', e1, e2⟩ := RpAll.getV (i := i) h2 (by simpa using e)
      exact ⟨d', by simpa using e1, e2⟩
theorem RpAll.append {K : PySem.W.Frag} {H : Hp} : ∀ {vs us : List V} {ds es : List D}, RpAll K H vs ds → RpAll K H us es → RpAll K H (vs ++ us) (ds ++ es)
  | _, _, [], _, h, h' => by cases h; exact h'
  | _, _, d :: ds, _, h, h' => by
    cases h with
    | cons h1 h2 => exact .cons h1 (h2.append h')
theorem RpAll.take {K : PySem.W.Frag} {H : Hp} : ∀ (n : Nat) {vs : List V} {ds : List D}, RpAll K H vs ds → RpAll K H (vs.take n) (ds.take n)
  | 0, _, _, _ => .nil
  | n + 1, _, [], h => by cases h; exact .nil
  | n + 1, _, d :: ds, h => by
    cases h with
    | cons h1 h2 => exact .cons h1 (RpAll.take n h2)
theorem RpAll.drop {K : PySem.W.Frag} {H : Hp} : ∀ (n : Nat) {vs : List V} {ds : List D}, RpAll K H vs ds → RpAll K H (vs.drop n) (ds.drop n)
  | 0, _, _, h => h
  | n + 1, _, [], h => by cases h; exact .nil
  | n + 1, _, d :: ds, h => by
    cases h with
    | cons h1 h2 => exact RpAll.drop n h2
theorem RpAll.set {K : PySem.W.Frag} {H : Hp} {v : V} {d : D} (r : Rp K H v d) : ∀ (n : Nat) {vs : List V} {ds : List D}, RpAll K H vs ds → RpAll K H (vs.set n v) (ds.set n d)
  | _, _, [], h => by cases h; exact .nil
  | 0, _, e :: ds, h => by
    cases h with
    | cons h1 h2 => exact .cons r h2
  | n + 1, _, e :: ds, h => by
    cases h with
    | cons h1 h2 => exact .cons h1 (RpAll.set r n h2)
theorem RpAll.reverse {K : PySem.W.Frag} {H : Hp} : ∀ {vs : List V} {ds : List D}, RpAll K H vs ds → RpAll K H vs.reverse ds.reverse
  | _, [], h => by cases h; exact .nil
  | _, d :: ds, h => by
    cases h with
    | cons h1 h2 =>
      rw [List.reverse_cons, List.reverse_cons]
      exact h2.reverse.append (.cons h1 .nil)

/-! ### the heap's steps -/
/-- an object of one's own: a list or a dict, what it holds is frozen -/
def OwnO (K : PySem.W.Frag) (G : Hp) (o : HO) (d : D) : Prop :=
  (∃ vs ds, o = .lst vs ∧ d = .list ds ∧ RpAll K G vs ds) ∨ (∃ kvs ds, o = .dK kvs ∧ d = .dict ds ∧ RpKv K G kvs ds)
theorem OwnO.mono {K : PySem.W.Frag} {G G' : Hp} {o : HO} {d : D} (e : Same G G') (h : OwnO K G o d) : OwnO K G' o d := by
  rcases h with ⟨vs, ds, h1, h2, h3⟩ | ⟨vs, ds, h1, h2, h3⟩
  · exact .inl ⟨vs, ds, h1, h2, RpAll.mono e _ _ h3⟩
  · exact .inr ⟨vs, ds, h1, h2, RpKv.mono e _ _ h3⟩
theorem OwnO.rp {K : PySem.W.Frag} {G : Hp} {p : Addr} {o : HO} {d : D} (h : OwnO K G o d) (e : G p = some o) : Rp K G (.ref p) d := by
  rcases h with ⟨vs, ds, rfl, rfl, h3⟩ | ⟨vs, ds, rfl, rfl, h3⟩
  · exact .lst (.inl e) h3
  · exact .dct (.inl e) h3
/-- a value that may be read: frozen, or an own object -/
def RB (K : PySem.W.Frag) (G H : Hp) (v : V) (d : D) : Prop := Rp K G v d ∨ ∃ p o, v = .ref p ∧ H p = some o ∧ OwnO K G o d
theorem RB.mono {K : PySem.W.Frag} {G G' H H' : Hp} {v : V} {d : D} (e : Same G G') (e' : Same H H') (h : RB K G H v d) : RB K G' H' v d := by
  rcases h with h | ⟨p, o, h1, h2, h3⟩
  · exact .inl (Rp.mono e _ _ h)
  · exact .inr ⟨p, o, h1, e' _ _ h2, h3.mono e⟩
theorem RB.rp {K : PySem.W.Frag} {G H : Hp} {v : V} {d : D} (e : Same G H) (h : RB K G H v d) : Rp K H v d := by
  rcases h with h | ⟨p, o, rfl, h2, h3⟩
  · exact Rp.mono e _ _ h
  · exact (h3.mono e).rp h2
theorem RB.list {K : PySem.W.Frag} {G H : Hp} {v : V} {ds : List D} (e : Same G H) (h : RB K G H v (.list ds)) : ∃ p vs, v = .ref p ∧ Rd H p (.lst vs) ∧ RpAll K G vs ds := by
  rcases h with h | ⟨p, o, rfl, h2, h3⟩
  · cases h with
    | lst hs ha => exact ⟨_, _, rfl, rd_same e hs, ha⟩
  · rcases h3 with ⟨vs, ds', rfl, h4, h5⟩ | ⟨vs, ds', rfl, h4, h5⟩
    · cases h4; exact ⟨p, vs, rfl, .inl h2, h5⟩
    · cases h4
theorem RB.tuple {K : PySem.W.Frag} {G H : Hp} {v : V} {ds : List D} (e : Same G H) (h : RB K G H v (.tuple ds)) : ∃ p vs, v = .ref p ∧ SqT K H p vs ∧ RpAll K G vs ds := by
  rcases h with h | ⟨p, o, rfl, h2, h3⟩
  · cases h with
    | tup hs ha => exact ⟨_, _, rfl, sqT_same e hs, ha⟩
  · rcases h3 with ⟨vs, ds', rfl, h4, h5⟩ | ⟨vs, ds', rfl, h4, h5⟩
    · cases h4
    · cases h4
theorem RB.dict {K : PySem.W.Frag} {G H : Hp} {v : V} {ds : List (D × D)} (e : Same G H) (h : RB K G H v (.dict ds)) : ∃ p kvs, v = .ref p ∧ Rd H p (.dK kvs) ∧ RpKv K G kvs ds := by
  rcases h with h | ⟨p, o, rfl, h2, h3⟩
  · cases h with
    | dct hs ha => exact ⟨_, _, rfl, rd_same e hs, ha⟩
  · rcases h3 with ⟨vs, ds', rfl, h4, h5⟩ | ⟨vs, ds', rfl, h4, h5⟩
    · cases h4
    · cases h4; exact ⟨p, vs, rfl, .inl h2, h5⟩
theorem RB.int {K : PySem.W.Frag} {G H : Hp} {v : V} {i : Int} (h : RB K G H v (.int i)) : v = .int i := by
  rcases h with h | ⟨p, o, rfl, h2, h3⟩
  · cases h; rfl
  · rcases h3 with ⟨vs, ds', rfl, h4, h5⟩ | ⟨vs, ds', rfl, h4, h5⟩ <;> cases h4
theorem RB.str {K : PySem.W.Frag} {G H : Hp} {v : V} {i : Str} (h : RB K G H v (.str i)) : v = .str i := by
  rcases h with h | ⟨p, o, rfl, h2, h3⟩
  · cases h; rfl
  · rcases h3 with ⟨vs, ds', rfl, h4, h5⟩ | ⟨vs, ds', rfl, h4, h5⟩ <;> cases h4
theorem RB.bool {K : PySem.W.Frag} {G H : Hp} {v : V} {i : Bool} (h : RB K G H v (.bool i)) : v = .bl i := by
  rcases h with h | ⟨p, o, rfl, h2, h3⟩
  · cases h; rfl
  · rcases h3 with ⟨vs, ds', rfl, h4, h5⟩ | ⟨vs, ds', rfl, h4, h5⟩ <;> cases h4
theorem RB.none {K : PySem.W.Frag} {G H : Hp} {v : V} (h : RB K G H v .none) : v = .non := by
  rcases h with h | ⟨p, o, rfl, h2, h3⟩
  · cases h; rfl
  · rcases h3 with ⟨vs, ds', rfl, h4, h5⟩ | ⟨vs, ds', rfl, h4, h5⟩ <;> cases h4

/-- what an expression's step does to both heaps: new objects alone -/
structure Step (H G H' G' : Hp) : Prop where
  hh : Same H H'
  gg : Same G G'
  gh : Same G' H'
  nw : ∀ a, H a ≠ none → G' a = G a
theorem Step.refl {H G : Hp} (e : Same G H) : Step H G H G := ⟨Same.refl _, Same.refl _, e, fun _ _ => rfl⟩
theorem same_upd {H : Hp} {p : Addr} {o : HO} (h : H p = none) : Same H (upd H p o) := fun b x e => by
  rw [upd_ne (ne_of_none e h)]
  exact e
theorem same_upd2 {G H : Hp} {p : Addr} {o : HO} (e : Same G H) : Same (upd G p o) (upd H p o) := fun b x h => by
  by_cases hb : b = p
  · subst hb; rw [upd_same] at h ⊢; exact h
  · rw [upd_ne hb] at h ⊢; exact e _ _ h
/-- a new object, frozen at once -/
theorem Step.new {H G : Hp} {p : Addr} {o : HO} (e : Same G H) (h : H p = none) : Step H G (upd H p o) (upd G p o) :=
  ⟨same_upd h, same_upd (e.free h), same_upd2 e, fun a ha => upd_ne fun z => ha (by rw [z]; exact h)⟩
/-- a new object, one's own -/
theorem Step.newO {H G : Hp} {p : Addr} {o : HO} (e : Same G H) (h : H p = none) : Step H G (upd H p o) G :=
  ⟨same_upd h, Same.refl _, e.trans (same_upd h), fun _ _ => rfl⟩
theorem Step.trans {H G H1 G1 H2 G2 : Hp} (a : Step H G H1 G1) (b : Step H1 G1 H2 G2) : Step H G H2 G2 :=
  ⟨a.hh.trans b.hh, a.gg.trans b.gg, b.gh, fun c hc => by
    have : H1 c ≠ none := by
      cases q : H c with
      | none => exact absurd q hc
      | some o => rw [a.hh c o q]; exact fun z => nomatch z
    rw [b.nw c this, a.nw c hc]⟩

/-! ### states -/
structure Cn where
  K : PySem.W.Frag
  N : List Str
  H0 : Hp
  G0 : Hp
structure SR (C : Cn) (env : Env) (σ : St) (H G : Hp) : Prop where
  h0 : Same C.H0 H
  g0 : ∀ a, C.H0 a ≠ none → G a = C.G0 a
  gh : Same G H
  len : env.length = C.N.length
  ln : σ.length = env.length
  sl : ∀ (i : Nat) d, env[i]? = some (some ⟨d, false⟩) → ∃ v, σ[i]? = some (some v) ∧ Rp C.K G v d
  ow : ∀ (i : Nat) d, env[i]? = some (some ⟨d, true⟩) → ∃ p o, σ[i]? = some (some (.ref p)) ∧ C.H0 p = none ∧ G p = none ∧ H p = some o ∧ OwnO C.K G o d
  dj : ∀ (i j : Nat) d e p, i ≠ j → env[i]? = some (some ⟨d, true⟩) → env[j]? = some (some ⟨e, true⟩) → σ[i]? = some (some (.ref p)) → σ[j]? ≠ some (some (.ref p))
theorem SR.step {C : Cn} {env : Env} {σ : St} {H G H' G' : Hp} (r : SR C env σ H G) (s : Step H G H' G') : SR C env σ H' G' where
  h0 := r.h0.trans s.hh
  g0 := fun a ha => by
    have : H a ≠ none := by
      cases q : C.H0 a with
      | none => exact absurd q ha
      | some o => rw [r.h0 a o q]; exact fun z => nomatch z
    rw [s.nw a this, r.g0 a ha]
  gh := s.gh
  len := r.len
  ln := r.ln
  sl := fun i d e => by
    obtain ⟨v, h1, h2⟩ := r.sl i d e
    exact ⟨v, h1, Rp.mono s.gg _ _ h2⟩
  ow := fun i d e => by
    obtain ⟨p, o, h1, h2, h3, h4, h5⟩ := r.ow i d e
    exact ⟨p, o, h1, h2, by rw [s.nw p (by rw [h4]; exact fun z => nomatch z)]; exact h3, s.hh _ _ h4, h5.mono s.gg⟩
  dj := r.dj
/-- a kind's value -/
def VR (C : Cn) (k : Kd) (v : V) (d : D) (env : Env) (σ : St) (H G : Hp) : Prop :=
  match k with
  | .sh => Rp C.K G v d
  | .fr => ∃ p o, v = .ref p ∧ C.H0 p = none ∧ G p = none ∧ H p = some o ∧ OwnO C.K G o d ∧ ∀ (i : Nat) e, env[i]? = some (some ⟨e, true⟩) → σ[i]? ≠ some (some (.ref p))
  | .bw i => env[i]? = some (some ⟨d, true⟩) ∧ σ[i]? = some (some v)
/-- an own object becomes frozen -/
theorem SR.freeze {C : Cn} {env : Env} {σ : St} {H G : Hp} (r : SR C env σ H G) {p : Addr} {o : HO} (h0 : C.H0 p = none) (hg : G p = none) (hh : H p = some o)
    (hn : ∀ (i : Nat) e, env[i]? = some (some ⟨e, true⟩) → σ[i]? ≠ some (some (.ref p))) : SR C env σ H (upd G p o) where
  h0 := r.h0
  g0 := fun a ha => by
    rw [upd_ne (fun z => ha (by rw [z]; exact h0))]
    exact r.g0 a ha
  gh := fun b u e => by
    by_cases hb : b = p
    · subst hb; rw [upd_same] at e; cases e; exact hh
    · rw [upd_ne hb] at e; exact r.gh _ _ e
  len := r.len
  ln := r.ln
  sl := fun i d e => by
    obtain ⟨v, h1, h2⟩ := r.sl i d e
    exact ⟨v, h1, Rp.mono (HC.same_upd hg) _ _ h2⟩
  ow := fun i d e => by
    obtain ⟨q, u, h1, h2, h3, h4, h5⟩ := r.ow i d e
    have ne : q ≠ p := fun z => hn i d e (by rw [h1, z])
    exact ⟨q, u, h1, h2, by rw [upd_ne ne]; exact h3, h4, h5.mono (HC.same_upd hg)⟩
  dj := r.dj
def shEnv (k : Kd) (d : D) (env : Env) : Env := match k with
  | .bw i => env.set i (some ⟨d, false⟩)
  | _ => env
theorem get_set {α : Type} {l : List α} {i j : Nat} {x y : α} (h : (l.set i x)[j]? = some y) : (i = j ∧ y = x) ∨ (i ≠ j ∧ l[j]? = some y) := by
  by_cases e : i = j
  · subst e
    by_cases hl : i < l.length
    · rw [List.getElem?_set_self hl] at h; cases h; exact .inl ⟨rfl, rfl⟩
    · rw [List.getElem?_eq_none (by simpa using hl)] at h; cases h
  · rw [List.getElem?_set_ne e] at h; exact .inr ⟨e, h⟩
/-- a value used by reading it -/
theorem SR.useR {C : Cn} {env : Env} {σ : St} {H G : Hp} {k : Kd} {v : V} {d : D} (r : SR C env σ H G) (h : VR C k v d env σ H G) : ∃ G', Same G G' ∧ SR C env σ H G' ∧ RB C.K G' H v d := by
  cases k with
  | sh => exact ⟨G, Same.refl _, r, .inl h⟩
  | fr =>
    obtain ⟨p, o, rfl, h0, hg, hh, ho, hn⟩ := h
    refine ⟨upd G p o, HC.same_upd hg, r.freeze h0 hg hh hn, .inl ?_⟩
    exact (ho.mono (HC.same_upd hg)).rp upd_same
  | bw i =>
    obtain ⟨h1, h2⟩ := h
    obtain ⟨p, o, e1, e2, e3, e4, e5⟩ := r.ow i d h1
    rw [h2] at e1; cases e1
    exact ⟨G, Same.refl _, r, .inr ⟨p, o, rfl, e4, e5⟩⟩
/-- a slot's object becomes shared -/
theorem SR.unown {C : Cn} {env : Env} {σ : St} {H G : Hp} {i : Nat} {d : D} (r : SR C env σ H G) (h : env[i]? = some (some ⟨d, true⟩)) :
    ∃ G' v, Same G G' ∧ SR C (env.set i (some ⟨d, false⟩)) σ H G' ∧ σ[i]? = some (some v) ∧ Rp C.K G' v d := by
  obtain ⟨p, o, e1, e2, e3, e4, e5⟩ := r.ow i d h
  have sg : Same G (upd G p o) := HC.same_upd e3
  refine ⟨upd G p o, .ref p, sg, ⟨r.h0, fun a ha => ?_, fun b u e => ?_, by simpa using r.len, by simpa using r.ln, fun j e hj => ?_, fun j e hj => ?_, fun j l e f q ne hj hl => ?_⟩, e1, (e5.mono sg).rp upd_same⟩
  · rw [upd_ne (fun z => ha (by rw [z]; exact e2))]
    exact r.g0 a ha
  · by_cases hb : b = p
    · subst hb; rw [upd_same] at e; cases e; exact e4
    · rw [upd_ne hb] at e; exact r.gh _ _ e
  · rcases get_set hj with ⟨rfl, e⟩ | ⟨ne, e⟩
    · cases e; exact ⟨_, e1, (e5.mono sg).rp upd_same⟩
    · obtain ⟨v, h1, h2⟩ := r.sl j _ e
      exact ⟨v, h1, Rp.mono sg _ _ h2⟩
  · rcases get_set hj with ⟨rfl, e⟩ | ⟨ne, e⟩
    · cases e
    · obtain ⟨q, u, h1, h2, h3, h4, h5⟩ := r.ow j _ e
      have nq : q ≠ p := fun z => r.dj i j d _ p ne h e e1 (by rw [h1, z])
      exact ⟨q, u, h1, h2, by rw [upd_ne nq]; exact h3, h4, h5.mono sg⟩
  · rcases get_set hj with ⟨_, e⟩ | ⟨_, e1'⟩
    · cases e
    · rcases get_set hl with ⟨_, e⟩ | ⟨_, e2'⟩
      · cases e
      · exact r.dj j l _ _ q ne e1' e2'
/-- a value used by sharing it -/
theorem SR.useS {C : Cn} {env : Env} {σ : St} {H G : Hp} {k : Kd} {v : V} {d : D} (r : SR C env σ H G) (h : VR C k v d env σ H G) : ∃ G', Same G G' ∧ SR C (shEnv k d env) σ H G' ∧ Rp C.K G' v d := by
  cases k with
  | sh => exact ⟨G, Same.refl _, r, h⟩
  | fr =>
    obtain ⟨p, o, rfl, h0, hg, hh, ho, hn⟩ := h
    exact ⟨upd G p o, HC.same_upd hg, r.freeze h0 hg hh hn, (ho.mono (HC.same_upd hg)).rp upd_same⟩
  | bw i =>
    obtain ⟨h1, h2⟩ := h
    obtain ⟨G', v', a, b, c, e⟩ := r.unown h1
    rw [h2] at c; cases c
    exact ⟨G', a, b, e⟩

/-! ### readings -/
abbrev MV := Env → Option (D × Kd × Env)
abbrev MT := Env → Option (Bool × Env)
abbrev ML := Env → Option (List D × Env)
/-- an expression's reading by m -/
def tE (C : Cn) (m : MV) : TE := fun σ H Q => ∃ env G d k env', SR C env σ H G ∧ m env = some (d, k, env') ∧
  ∀ v H' G', Same H H' → Same G G' → SR C env' σ H' G' → VR C k v d env' σ H' G' → Q v H'
/-- a test's -/
def tT (C : Cn) (m : MT) : TT := fun σ H Q => ∃ env G b env', SR C env σ H G ∧ m env = some (b, env') ∧
  ∀ H' G', Same H H' → Same G G' → SR C env' σ H' G' → Q b H'
/-- a list of shared values -/
def tL (C : Cn) (m : ML) : TA := fun σ H Q => ∃ env G ds env', SR C env σ H G ∧ m env = some (ds, env') ∧
  ∀ vs H' G', Same H H' → Same G G' → SR C env' σ H' G' → RpAll C.K G' vs ds → Q vs H'
theorem peImp {X : Cx} {e : Expr} {t t' : TE} (h : PE X e t) (i : ∀ σ H Q, t' σ H Q → t σ H Q) : PE X e t' := ⟨fun pins s σ H Q I q => h.run pins s σ H Q I (i σ H Q q)⟩
theorem ptImp {X : Cx} {e : Expr} {t t' : TT} (h : PT X e t) (i : ∀ σ H Q, t' σ H Q → t σ H Q) : PT X e t' := ⟨fun pins s σ H Q I q => h.run pins s σ H Q I (i σ H Q q)⟩
theorem paImp {X : Cx} {e : List Expr} {t t' : TA} (h : PA X e t) (i : ∀ σ H Q, t' σ H Q → t σ H Q) : PA X e t' := ⟨fun pos pins s σ H Q I q => h.run pos pins s σ H Q I (i σ H Q q)⟩
theorem psImp {X : Cx} {e : Stmt} {t t' : TS} (h : PS X e t) (i : ∀ D σ H, t' D σ H → t D σ H) : PS X e t' := ⟨fun pins s σ H Q I q => h.run pins s σ H Q I (i Q σ H q)⟩
theorem pssImp {X : Cx} {e : List Stmt} {t t' : TS} (h : PSs X e t) (i : ∀ D σ H, t' D σ H → t D σ H) : PSs X e t' := ⟨fun pins s σ H Q I q => h.run pins s σ H Q I (i Q σ H q)⟩

/-- what an operation hands back: a frozen value, or (fr) a new own object -/
def ResV (K : PySem.W.Frag) (H G' H' : Hp) (fr : Bool) (z : V) (c : D) : Prop :=
  if fr = true then ∃ p o, z = .ref p ∧ H p = none ∧ G' p = none ∧ H' p = some o ∧ OwnO K G' o c else Rp K G' z c
def kOf (fr : Bool) : Kd := if fr = true then .fr else .sh
theorem ResV.vr {C : Cn} {env : Env} {σ : St} {H G H' G' : Hp} {fr : Bool} {z : V} {c : D} (r : SR C env σ H G) (h : ResV C.K H G' H' fr z c) : VR C (kOf fr) z c env σ H' G' := by
  cases fr with
  | false => exact h
  | true =>
    obtain ⟨p, o, rfl, h1, h2, h3, h4⟩ := h
    refine ⟨p, o, rfl, ?_, h2, h3, h4, fun i e he hs => ?_⟩
    · cases q : C.H0 p with
      | none => rfl
      | some u => rw [r.h0 _ _ q] at h1; cases h1
    · obtain ⟨p', o', e1, _, _, e4, _⟩ := r.ow i e he
      rw [hs] at e1; cases e1; rw [h1] at e4; cases e4
/-- one operand, two operands, read -/
def ev1 (ma : MV) (f : D → Option (D × Bool)) : MV := fun env =>
  match ma env with
  | some (a, _, e1) => (match f a with
    | some (c, fr) => some (c, kOf fr, e1)
    | none => none)
  | none => none
def ev2 (ma mb : MV) (f : D → D → Option (D × Bool)) : MV := fun env =>
  match ma env with
  | some (a, _, e1) => (match mb e1 with
    | some (b, _, e2) => (match f a b with
      | some (c, fr) => some (c, kOf fr, e2)
      | none => none)
    | none => none)
  | none => none
abbrev D1 (K : PySem.W.Frag) (r : V → Hp → VK → Prop) (f : D → Option (D × Bool)) : Prop := ∀ x H G Q a c fr, Same G H → RB K G H x a → f a = some (c, fr) →
  (∀ z H' G', Step H G H' G' → ResV K H G' H' fr z c → Q z H') → r x H Q
abbrev D2 (K : PySem.W.Frag) (r : R2) (f : D → D → Option (D × Bool)) : Prop := ∀ x y H G Q a b c fr, Same G H → RB K G H x a → RB K G H y b → f a b = some (c, fr) →
  (∀ z H' G', Step H G H' G' → ResV K H G' H' fr z c → Q z H') → r x y H Q
theorem tE.one {C : Cn} {ma : MV} {f : D → Option (D × Bool)} {r : V → Hp → VK → Prop} (hd : D1 C.K r f) {σ : St} {H : Hp} {Q : VK} (h : tE C (ev1 ma f) σ H Q) : tE C ma σ H fun x H1 => r x H1 Q := by
  obtain ⟨env, G, d, k, env', hs, hm, hq⟩ := h
  unfold ev1 at hm
  cases e1 : ma env with
  | none => rw [e1] at hm; cases hm
  | some q =>
    obtain ⟨a, ka, ea⟩ := q
    rw [e1] at hm
    dsimp only at hm
    cases e2 : f a with
    | none => rw [e2] at hm; cases hm
    | some q2 =>
      obtain ⟨c, fr⟩ := q2
      rw [e2] at hm
      cases hm
      refine ⟨env, G, a, ka, env', hs, e1, fun v H1 G1 hh hg s1 hv => ?_⟩
      obtain ⟨G2, g2, s2, rb⟩ := s1.useR hv
      refine hd v H1 G2 Q a d fr s2.gh rb e2 fun z H' G' st rv => ?_
      exact hq z H' G' (hh.trans st.hh) (hg.trans (g2.trans st.gg)) (s2.step st) (rv.vr s2)
theorem tE.two {C : Cn} {ma mb : MV} {f : D → D → Option (D × Bool)} {r : R2} (hd : D2 C.K r f) {σ : St} {H : Hp} {Q : VK} (h : tE C (ev2 ma mb f) σ H Q) : tOp r (tE C ma) (tE C mb) σ H Q := by
  obtain ⟨env, G, d, k, env', hs, hm, hq⟩ := h
  unfold ev2 at hm
  cases e1 : ma env with
  | none => rw [e1] at hm; cases hm
  | some q =>
    obtain ⟨a, ka, ea⟩ := q
    rw [e1] at hm
    dsimp only at hm
    cases e2 : mb ea with
    | none => rw [e2] at hm; cases hm
    | some q2 =>
      obtain ⟨b, kb, eb⟩ := q2
      rw [e2] at hm
      dsimp only at hm
      cases e3 : f a b with
      | none => rw [e3] at hm; cases hm
      | some q3 =>
        obtain ⟨c, fr⟩ := q3
        rw [e3] at hm
        cases hm
        refine ⟨env, G, a, ka, ea, hs, e1, fun v H1 G1 hh hg s1 hv => ?_⟩
        obtain ⟨G2, g2, s2, rb⟩ := s1.useR hv
        refine ⟨ea, G2, b, kb, env', s2, e2, fun u H3 G3 hh3 hg3 s3 hu => ?_⟩
        obtain ⟨G4, g4, s4, rb4⟩ := s3.useR hu
        refine hd v u H3 G4 Q a b d fr s4.gh (rb.mono (hg3.trans g4) hh3) rb4 e3 fun z H' G' st rv => ?_
        exact hq z H' G' (hh.trans (hh3.trans st.hh)) (hg.trans (g2.trans (hg3.trans (g4.trans st.gg)))) (s4.step st) (rv.vr s4)
/-! ### operations by data -/
/-- a two-place operation by data -/
def rD (K : PySem.W.Frag) (g : D → D → Option (D × Bool)) : R2 := fun x y H Q => ∃ G a b c fr, Same G H ∧ RB K G H x a ∧ RB K G H y b ∧ g a b = some (c, fr) ∧
  ∀ z H' G', Step H G H' G' → ResV K H G' H' fr z c → Q z H'
def rU1 (K : PySem.W.Frag) (g : D → Option (D × Bool)) : V → Hp → VK → Prop := fun x H Q => ∃ G a c fr, Same G H ∧ RB K G H x a ∧ g a = some (c, fr) ∧
  ∀ z H' G', Step H G H' G' → ResV K H G' H' fr z c → Q z H'
theorem d2_rD (K : PySem.W.Frag) (g : D → D → Option (D × Bool)) : D2 K (rD K g) g := fun x y H G Q a b c fr h1 h2 h3 h4 h5 => ⟨G, a, b, c, fr, h1, h2, h3, h4, h5⟩
theorem d1_rU (K : PySem.W.Frag) (g : D → Option (D × Bool)) : D1 K (rU1 K g) g := fun x H G Q a c fr h1 h2 h4 h5 => ⟨G, a, c, fr, h1, h2, h4, h5⟩
/-- the ways a result comes -/
theorem res_sc {K : PySem.W.Frag} {H G : Hp} {Q : VK} {z : V} {c : D} (e : Same G H) (q : ∀ z H' G', Step H G H' G' → ResV K H G' H' false z c → Q z H') (r : Rp K G z c) : Q z H :=
  q z H G (.refl e) (by exact r)
theorem res_tup {K : PySem.W.Frag} {H G : Hp} {Q : VK} {vs : List V} {ds : List D} {p : Addr} (e : Same G H) (q : ∀ z H' G', Step H G H' G' → ResV K H G' H' false z (.tuple ds) → Q z H') (r : RpAll K G vs ds) (hp : H p = none) : Q (.ref p) (upd H p (.tup vs)) :=
  q _ _ _ (.new e hp) (by
    show Rp K _ _ _
    exact .tup (.inl (.inl upd_same)) (RpAll.mono (HC.same_upd (e.free hp)) _ _ r))
theorem res_lst {K : PySem.W.Frag} {H G : Hp} {Q : VK} {vs : List V} {ds : List D} {p : Addr} (e : Same G H) (q : ∀ z H' G', Step H G H' G' → ResV K H G' H' true z (.list ds) → Q z H') (r : RpAll K G vs ds) (hp : H p = none) : Q (.ref p) (upd H p (.lst vs)) :=
  q _ _ _ (.newO e hp) (by
    show ∃ p o, _
    exact ⟨p, _, rfl, hp, e.free hp, upd_same, .inl ⟨vs, ds, rfl, rfl, r⟩⟩)
theorem res_dct {K : PySem.W.Frag} {H G : Hp} {Q : VK} {vs : List (Key × V)} {ds : List (D × D)} {p : Addr} (e : Same G H) (q : ∀ z H' G', Step H G H' G' → ResV K H G' H' true z (.dict ds) → Q z H') (r : RpKv K G vs ds) (hp : H p = none) : Q (.ref p) (upd H p (.dK vs)) :=
  q _ _ _ (.newO e hp) (by
    show ∃ p o, _
    exact ⟨p, _, rfl, hp, e.free hp, upd_same, .inr ⟨vs, ds, rfl, rfl, r⟩⟩)
/-- a list as it stands in the heap -/
theorem lstR {X : Cx} {pins : List (Addr × Obj)} {σ : St} {H : Hp} {s : Shared} {l : Addr} {xs : List V} (I : Inv X pins σ H s) (hH : Rd H l (.lst xs)) :
    xs.length ≤ sizeLine ∧ ∃ (its : List Value) (n : Nat), Vals xs its ∧ xs.length = its.length ∧ s.heap.get? l = some { cls := .type "list", data := .seq its.toArray n } := by
  obtain ⟨z, its, n, r, e⟩ := hH.ok I.hok
  exact ⟨z, its, n, r, r.length, e⟩

/-! ### numbers, texts, lists, tuples -/
def okMul (i j : Int) : Bool := (decide (-(2 ^ 64) < i) && decide (i < 2 ^ 64)) || (decide (-(2 ^ 64) < j) && decide (j < 2 ^ 64))
theorem okMul_of {i j : Int} (h : okMul i j = true) : CMul i j := by
  unfold okMul at h
  simp only [Bool.or_eq_true, Bool.and_eq_true, decide_eq_true_eq] at h
  exact h
def sRep (x : Str) (n : Int) : Str := ⟨((List.replicate n.toNat x.cps.toList).flatten).toArray⟩
def dBin : Operator → D → D → Option (D × Bool)
  | .Add, .int i, .int j => some (.int (i + j), false)
  | .Add, .str i, .str j => if i.length + j.length ≤ sizeLine then some (.str (i ++ j), false) else none
  | .Add, .list xs, .list ys => if xs.length + ys.length ≤ sizeLine then some (.list (xs ++ ys), true) else none
  | .Add, .tuple xs, .tuple ys => if xs.length + ys.length ≤ sizeLine then some (.tuple (xs ++ ys), false) else none
  | .Sub, .int i, .int j => some (.int (i - j), false)
  | .Mult, .int i, .int j => if okMul i j = true then some (.int (i * j), false) else none
  | .Mult, .list xs, .int k => if 0 ≤ k ∧ k ≤ 1000000 ∧ xs.length * k.toNat ≤ sizeLine then some (.list (List.replicate k.toNat xs).flatten, true) else none
  | .Mult, .tuple xs, .int k => if 1 ≤ k ∧ k ≤ 1000 ∧ xs.length ≤ 1000 ∧ xs ≠ [] then some (.tuple (List.replicate k.toNat xs).flatten, false) else none
  | .Mult, .str x, .int k => if 1 ≤ k ∧ k ≤ 1000 ∧ x.length ≤ 1000 then some (.str (sRep x k), false) else none
  | .FloorDiv, .int i, .int j => if 0 < j ∧ j < 1073741824 then some (.int (i / j), false) else none
  | .Mod, .int i, .int j => if 0 < j then some (.int (i % j), false) else none
  | .Pow, .int i, .int j => if 0 ≤ j ∧ j ≤ 1000000 ∧ i.natAbs < 2 ^ 64 then some (.int (i ^ j.toNat), false) else none
  | .RShift, .int i, .int j => if 0 ≤ j then some (.int (i / 2 ^ j.toNat), false) else none
  | .BitAnd, .int i, .int j => some (.int (Builtin.bitAnd i j), false)
  | _, _, _ => none
end HC
set_option Elab.async false
set_option linter.all false
set_option maxRecDepth 100000
set_option autoImplicit false
/-! HC, part B: operators by data. -/
namespace HC
open PySem PySem.Spec PyProof.Rows L2
section
variable {X : Cx}
/-- list + list -/
theorem op_catR : OpR X (binaryOp .Add) (fun x y H Q => ∃ l b xs zs, x = .ref l ∧ y = .ref b ∧ Rd H l (.lst xs) ∧ Rd H b (.lst zs) ∧ xs.length + zs.length ≤ sizeLine ∧ ∀ p, H p = none → Q (.ref p) (upd H p (.lst (xs ++ zs)))) := by
  intro pins s σ H x y v u Q I rx ry ⟨l, b, xs, zs, ex, ey, h1, h2, h3, q⟩
  subst ex ey
  cases rx
  cases ry
  obtain ⟨_, as, _, ra, la, ea⟩ := lstR I h1
  obtain ⟨_, bs, _, rb, lb, eb⟩ := lstR I h2
  refine PySem.P.add_list ea eb ?_ (by simp only [List.size_toArray]; omega)
  rw [show as.toArray ++ bs.toArray = (as ++ bs).toArray by simp]
  exact ⟨.ref _, _, I.lnew (t' := s.toks) (ra.append rb) (by simpa using h3), rfl, q _ I.fresh⟩
theorem fold_rep (l : List Nat) : ∀ (m : Nat) (acc : List Nat), (List.replicate m l.toArray).foldl (· ++ ·) acc.toArray = (acc ++ (List.replicate m l).flatten).toArray
  | 0, acc => by simp
  | m + 1, acc => by
    rw [List.replicate_succ, List.foldl_cons, show acc.toArray ++ l.toArray = (acc ++ l).toArray by simp, fold_rep l m, List.replicate_succ, List.flatten_cons, List.append_assoc]
/-- text * int -/
theorem op_mulS : OpR X (binaryOp .Mult) (fun x y H Q => ∃ (z : Str) (k : Int), x = .str z ∧ y = .int k ∧ 1 ≤ k ∧ k ≤ 1000 ∧ z.length ≤ 1000 ∧ Q (.str (sRep z k)) H) := by
  intro pins s σ H x y v u Q I rx ry h
  obtain ⟨z, k, rfl, rfl, h1, h2, hz, q⟩ := h
  obtain ⟨t, rfl⟩ := rx
  obtain ⟨t', rfl⟩ := ry
  have hl : z.length = z.cps.size := rfl
  have e0 : ∀ m : Nat, ((List.replicate m z.cps).foldl (· ++ ·) #[]) = ((List.replicate m z.cps.toList).flatten).toArray := fun m => by
    have := fold_rep z.cps.toList m []
    simpa using this
  have hs := sizeLine_eq
  have hm : z.length * k.toNat ≤ 1000 * 1000 := Nat.mul_le_mul hz (by omega)
  refine PySem.P.mul_str ?_ (fun _ _ => ?_) (fun _ _ => ?_) ?_
  · rw [decide_eq_false (by omega), decide_eq_false (by omega)]; rfl
  · have : (2 ^ 63 - 1) / k ≥ (2 ^ 63 - 1) / 1000 := by
      have h3 : (0 : Int) < k := by omega
      have h5 : (2 ^ 63 - 1 : Int) / 1000 * k ≤ 2 ^ 63 - 1 := by omega
      exact (Int.le_ediv_iff_mul_le h3).mpr h5
    omega
  · unfold Builtin.Str.tooLong
    simp only [decide_eq_false_iff_not]
    omega
  · rw [if_neg (by omega)]
    split
    · rename_i hc
      show EP X pins σ Q _ s
      refine ⟨.str (sRep z k), H, I, ⟨t, ?_⟩, q⟩
      congr 1
      simp only [Bool.or_eq_true, beq_iff_eq] at hc
      unfold sRep
      rcases hc with hc | hc
      · subst hc
        simp
      · have : z.cps = #[] := by
          rw [hl] at hc
          exact Array.eq_empty_of_size_eq_zero hc
        cases z
        simp only at this
        subst this
        simp
    · rw [e0]
      refine ⟨?_, ?_⟩
      · show ((List.replicate k.toNat z.cps.toList).flatten).toArray.size ≤ _
        rw [List.size_toArray, PyProof.Rows.lm_len_rep_flat]
        rw [hl] at hm
        have : z.cps.toList.length = z.cps.size := by simp
        rw [this, Nat.mul_comm]
        omega
      · exact ⟨.str (sRep z k), H, I.tok _, ⟨_, rfl⟩, q⟩
/-- list * int -/
theorem op_repR : OpR X (binaryOp .Mult) (fun x y H Q => ∃ l k xs, x = .ref l ∧ y = .int k ∧ Rd H l (.lst xs) ∧ 0 ≤ k ∧ k ≤ 1000000 ∧ xs.length * k.toNat ≤ sizeLine ∧ ∀ p, H p = none → Q (.ref p) (upd H p (.lst (List.replicate k.toNat xs).flatten))) := by
  intro pins s σ H x y v u Q I rx ry ⟨l, k, xs, ex, ey, hl, k0, k1, hz, q⟩
  subst ex ey
  cases rx
  obtain ⟨t, rfl⟩ := ry
  obtain ⟨_, as, n, ra, la, ea⟩ := lstR I hl
  have hs := sizeLine_eq
  have z1 : as.toArray.size * k.toNat ≤ sizeLine := by simpa [la] using hz
  have z2 : ¬ as.toArray.size * k.toNat > (2 ^ 63 - 1) / 8 := by omega
  have z3 : ¬ (!Builtin.List.listFitsIndex k) = true := by
    rw [fitsIndex_both (by omega) (by omega)]
    decide
  have z4 : ¬ Builtin.List.listTooLong (as.toArray.size * k.toNat) = true := by
    rw [L2.notLongL z1]
    decide
  have z5 : (List.replicate (if as.toArray.isEmpty = true then 0 else k.toNat) as.toArray).foldl (· ++ ·) #[] = (List.replicate k.toNat as).flatten.toArray := by
    have f : ∀ m : Nat, (List.replicate m as.toArray).foldl (· ++ ·) #[] = (List.replicate m as).flatten.toArray := fun m => by
      simpa using L2.foldl_rep as m []
    rw [f]
    cases as with
    | nil => simp
    | cons a r => rw [if_neg (by simp)]
  refine wpAny_binaryOp_repeat_ref (T := "list") (U := "int") (by decide) ⟨_, ea, rfl⟩ (fun s' => typeIs_int s' k t) noFill_list_mul F.fills_int_mul F.slot_int_rmul repeat_list F.slot_int_index.lookup ?_
  refine call_meets F.slot_int_rmul (typeIs_int s k t) F.entry_int_rmul (F.args_int_rmul_2 _ _) (int___rmul___int_list k t l as.toArray n) ⟨ea, rfl, ⟨_, ea, rfl⟩, ?_⟩
  refine call_meets F.slot_list_mul ⟨_, ea, rfl⟩ F.entry_list_mul (F.args_list_mul_2 _ _) (AutoListH.list___mul___list_int_3 l as.toArray n k t z3 z2 z4) ⟨ea, ?_⟩
  rw [z5]
  refine ⟨.ref _, _, I.lnew (t' := s.toks) (ra.rep k.toNat) ?_, rfl, q _ I.fresh⟩
  rw [PyProof.Rows.lm_len_rep_flat, Nat.mul_comm]
  exact hz
/-- tuple * 1 -/
theorem tup_mul1 (l : Addr) (items : Array Value) (n : Nat) (dd : Option Addr) (sl : Array (Option Value)) (u : Tok) :
    Meets (Builtin.«tuple.__mul__» ⟨[.ref l, .int 1 u], []⟩) (fun _ R s => s.heap.get? l = some { cls := .type "tuple", dict := dd, data := .seq items n, slots := sl } ∧ R (.ok (.ret (Value.ref l))) s) :=
  .of_wp fun prog w A R s h => by
    obtain ⟨hp, g, d, tk, os⟩ := s
    obtain ⟨hl, h⟩ := h
    have f1 := AutoSeq1.idx_int
    wp_walk using wpAny_loadPart' hl
    repeat (first
      | (refine wpAny_ite_false (by decide) ?_; wp_walk using wpAny_loadPart' hl)
      | (refine wpAny_ite_true (by simp) ?_; wp_walk using wpAny_loadPart' hl))
    exact ⟨_, rfl, h⟩
/-- tuple * int -/
theorem op_repA : OpR X (binaryOp .Mult) (fun x y H Q => ∃ l k xs, x = .ref l ∧ y = .int k ∧ SqT X.K H l xs ∧ xs ≠ [] ∧ 1 ≤ k ∧ k ≤ 1000 ∧ xs.length ≤ 1000 ∧ (k = 1 → Q (.ref l) H) ∧
    (2 ≤ k → ∀ p, H p = none → Q (.ref p) (upd H p (.tup (List.replicate k.toNat xs).flatten)))) := by
  intro pins s σ H x y v u Q I rx ry ⟨l, k, xs, ex, ey, ht, hne, k1, k2, hz, q1, q2⟩
  by_cases hk : k = 1
  · subst ex ey hk
    cases rx
    obtain ⟨t, rfl⟩ := ry
    obtain ⟨its, r, ⟨⟨cls, dd, data, sl⟩, ho, hc, n, hd⟩, hs⟩ := I.tuple ht
    simp only at hc hd
    subst hc hd
    refine wpAny_binaryOp_repeat_ref (T := "tuple") (U := "int") (by decide) ⟨_, ho, rfl⟩ (fun s' => typeIs_int s' 1 t) noFill_tuple_mul F.fills_int_mul F.slot_int_rmul repeat_tuple F.slot_int_index.lookup ?_
    refine call_meets F.slot_int_rmul (typeIs_int s 1 t) F.entry_int_rmul (F.args_int_rmul_2 _ _) (int_rmul_tuple 1 t l its.toArray n dd sl) ⟨ho, rfl, ⟨_, ho, rfl⟩, ?_⟩
    refine call_meets F.slot_tuple_mul ⟨_, ho, rfl⟩ F.entry_tuple_mul (F.args_tuple_mul_2 _ _) (tup_mul1 l its.toArray n dd sl t) ⟨ho, ?_⟩
    exact ⟨.ref l, H, I, rfl, q1 rfl⟩
  · exact op_repT pins s σ H x y v u Q I rx ry ⟨l, k, xs, ex, ey, ht, hne, by omega, k2, hz, q2 (by omega)⟩
theorem RpAll.flat {K : PySem.W.Frag} {H : Hp} {vs : List V} {ds : List D} (h : RpAll K H vs ds) : ∀ n : Nat, RpAll K H (List.replicate n vs).flatten (List.replicate n ds).flatten
  | 0 => .nil
  | n + 1 => by
    rw [List.replicate_succ, List.replicate_succ, List.flatten_cons, List.flatten_cons]
    exact h.append (RpAll.flat h n)
theorem opr_bin (op : Operator) : OpR X (binaryOp op) (rD X.K (dBin op)) := by
  intro pins s σ H x y v u Q I rx ry ⟨G, a, b, c, fr, gh, ra, rb, hg, q⟩
  unfold dBin at hg
  split at hg
  · cases hg
    exact op_add pins s σ H x y v u Q I rx ry ⟨_, _, ra.int, rb.int, res_sc gh q (.int _)⟩
  · split at hg
    · rename_i hz
      cases hg
      exact op_add_str pins s σ H x y v u Q I rx ry ⟨_, _, ra.str, rb.str, hz, res_sc gh q (.str _)⟩
    · cases hg
  · split at hg
    · rename_i hz
      cases hg
      obtain ⟨p1, v1, e1, s1, r1⟩ := ra.list gh
      obtain ⟨p2, v2, e2, s2, r2⟩ := rb.list gh
      exact op_catR pins s σ H x y v u Q I rx ry ⟨p1, p2, v1, v2, e1, e2, s1, s2, by rw [r1.length, r2.length]; exact hz, fun p hp => res_lst gh q (r1.append r2) hp⟩
    · cases hg
  · rename_i xs ys
    split at hg
    · rename_i hz
      cases hg
      obtain ⟨p1, v1, e1, s1, r1⟩ := ra.tuple gh
      obtain ⟨p2, v2, e2, s2, r2⟩ := rb.tuple gh
      have l1 := r1.length
      have l2 := r2.length
      refine op_catA pins s σ H x y v u Q I rx ry ⟨p1, p2, v1, v2, e1, e2, s1, s2, by omega, fun h0 => ?_, fun h0 h0' => ?_, fun _ _ p hp => res_tup gh q (r1.append r2) hp⟩
      · subst h0
        cases xs with
        | nil =>
          rcases rb with rb | ⟨_, o, _, _, ho⟩
          · rw [e2] at rb; exact res_sc gh q rb
          · rcases ho with ⟨_, _, _, z, _⟩ | ⟨_, _, _, z, _⟩ <;> cases z
        | cons _ _ => simp at l1
      · subst h0'
        cases ys with
        | nil =>
          rcases ra with ra | ⟨_, o, _, _, ho⟩
          · rw [e1] at ra
            rw [List.append_nil] at q
            exact res_sc gh q ra
          · rcases ho with ⟨_, _, _, z, _⟩ | ⟨_, _, _, z, _⟩ <;> cases z
        | cons _ _ => simp at l2
    · cases hg
  · cases hg
    exact op_sub pins s σ H x y v u Q I rx ry ⟨_, _, ra.int, rb.int, res_sc gh q (.int _)⟩
  · split at hg
    · rename_i hz
      cases hg
      exact op_mul pins s σ H x y v u Q I rx ry ⟨_, _, ra.int, rb.int, okMul_of hz, res_sc gh q (.int _)⟩
    · cases hg
  · split at hg
    · rename_i hz
      cases hg
      obtain ⟨p1, v1, e1, s1, r1⟩ := ra.list gh
      exact op_repR pins s σ H x y v u Q I rx ry ⟨p1, _, v1, e1, rb.int, s1, hz.1, hz.2.1, by rw [r1.length]; exact hz.2.2, fun p hp => res_lst gh q (r1.flat _) hp⟩
    · cases hg
  · rename_i xs k
    split at hg
    · rename_i hz
      cases hg
      obtain ⟨p1, v1, e1, s1, r1⟩ := ra.tuple gh
      have l1 := r1.length
      refine op_repA pins s σ H x y v u Q I rx ry ⟨p1, _, v1, e1, rb.int, s1, fun z => hz.2.2.2 ?_, hz.1, hz.2.1, by rw [l1]; exact hz.2.2.1, fun h1 => ?_, fun _ p hp => res_tup gh q (r1.flat _) hp⟩
      · rw [z] at l1
        exact List.eq_nil_of_length_eq_zero l1.symm
      · subst h1
        rcases ra with ra | ⟨_, o, _, _, ho⟩
        · rw [e1] at ra
          refine res_sc gh q ?_
          simpa using ra
        · rcases ho with ⟨_, _, _, z, _⟩ | ⟨_, _, _, z, _⟩ <;> cases z
    · cases hg
  · split at hg
    · rename_i hz
      cases hg
      exact op_mulS pins s σ H x y v u Q I rx ry ⟨_, _, ra.str, rb.int, hz.1, hz.2.1, hz.2.2, res_sc gh q (.str _)⟩
    · cases hg
  · split at hg
    · rename_i hz
      cases hg
      exact op_fdiv pins s σ H x y v u Q I rx ry ⟨_, _, ra.int, rb.int, hz, res_sc gh q (.int _)⟩
    · cases hg
  · split at hg
    · rename_i hz
      cases hg
      exact op_mod pins s σ H x y v u Q I rx ry ⟨_, _, ra.int, rb.int, hz, res_sc gh q (.int _)⟩
    · cases hg
  · split at hg
    · rename_i hz
      cases hg
      exact op_pow pins s σ H x y v u Q I rx ry ⟨_, _, ra.int, rb.int, hz, res_sc gh q (.int _)⟩
    · cases hg
  · split at hg
    · rename_i hz
      cases hg
      exact op_shr pins s σ H x y v u Q I rx ry ⟨_, _, ra.int, rb.int, hz, res_sc gh q (.int _)⟩
    · cases hg
  · cases hg
    exact op_and pins s σ H x y v u Q I rx ry ⟨_, _, ra.int, rb.int, res_sc gh q (.int _)⟩
  · cases hg
end
end HC
set_option Elab.async false
set_option linter.all false
set_option maxRecDepth 100000
set_option autoImplicit false
/-! HC, part X: == and != of any data that need compare no two dicts. -/
namespace HC
open PySem PySem.SeqAt
mutual
/-- whether no dict has to be compared -/
def cmpOk : PyData → PyData → Bool
  | .dict _, _ => false
  | _, .dict _ => false
  | .list xs, .list ys => (xs.length != ys.length) || cmpOks xs ys
  | .tuple xs, .tuple ys => cmpOks xs ys
  | _, _ => true
def cmpOks : List PyData → List PyData → Bool
  | x :: xs, y :: ys => cmpOk x y && cmpOks xs ys
  | _, _ => true
end
theorem cmpOks_cons {x y : PyData} {xs ys : List PyData} (h : cmpOks (x :: xs) (y :: ys) = true) : cmpOk x y = true ∧ cmpOks xs ys = true := by
  simpa [cmpOks] using h
theorem cmp_ll {xs ys : List PyData} (h : cmpOk (.list xs) (.list ys) = true) (e : xs.length = ys.length) : cmpOks xs ys = true := by
  simpa [cmpOk, e] using h
theorem cmp_tt {xs ys : List PyData} (h : cmpOk (.tuple xs) (.tuple ys) = true) : cmpOks xs ys = true := by
  simpa [cmpOk] using h
mutual
/-- one value that reads as two data: they are the same to == -/
theorem same_eqv {h : Heap} : ∀ (d d' : PyData) (v : Value) (as as' : List Addr), Reads h v d as → Reads h v d' as' → cmpOk d d' = true → PyData.eqv d d' = true
  | .none, d', v, as, as', r, r', c => by cases r; cases r'; simp [PyData.eqv]
  | .bool x, d', v, as, as', r, r', c => by cases r; cases r'; simp [PyData.eqv]
  | .int x, d', v, as, as', r, r', c => by cases r; cases r'; simp [PyData.eqv]
  | .str x, d', v, as, as', r, r', c => by cases r; cases r'; simp [PyData.eqv]
  | .dict kvs, d', v, as, as', r, r', c => by simp [cmpOk] at c
  | .list xs, d', v, as, as', r, r', c => by
    cases r with
    | @list l o vs n _ as₁ p1 p2 p3 p4 =>
      cases r' with
      | @list _ o' vs' n' ys bs₁ q1 q2 q3 q4 =>
        rw [p1] at q1; cases q1
        rw [p3] at q3; cases q3
        have l1 := ReadsAll.length _ _ _ p4
        have l2 := ReadsAll.length _ _ _ q4
        rw [PyData.eqv]
        exact sames_eqv xs ys _ _ _ p4 q4 (cmp_ll c (by omega)) (by omega)
      | @tuple _ o' vs' n' ys bs₁ q1 q2 q3 q4 =>
        rw [p1] at q1; cases q1
        rw [p2] at q2; simp at q2
      | dict q1 q2 q3 =>
        rw [p1] at q1; cases q1
        rw [p2] at q2; simp at q2
  | .tuple xs, d', v, as, as', r, r', c => by
    cases r with
    | @tuple l o vs n _ as₁ p1 p2 p3 p4 =>
      cases r' with
      | @tuple _ o' vs' n' ys bs₁ q1 q2 q3 q4 =>
        rw [p1] at q1; cases q1
        rw [p3] at q3; cases q3
        have l1 := ReadsAll.length _ _ _ p4
        have l2 := ReadsAll.length _ _ _ q4
        rw [PyData.eqv]
        exact sames_eqv xs ys _ _ _ p4 q4 (cmp_tt c) (by omega)
      | @list _ o' vs' n' ys bs₁ q1 q2 q3 q4 =>
        rw [p1] at q1; cases q1
        rw [p2] at q2; simp at q2
      | dict q1 q2 q3 =>
        rw [p1] at q1; cases q1
        rw [p2] at q2; simp at q2
theorem sames_eqv {h : Heap} : ∀ (xs ys : List PyData) (vs : List Value) (as as' : List Addr), ReadsAll h vs xs as → ReadsAll h vs ys as' → cmpOks xs ys = true → xs.length = ys.length → PyData.eqvAll xs ys = true
  | [], [], _, _, _, _, _, _, _ => by simp [PyData.eqvAll]
  | [], _ :: _, _, _, _, _, _, _, e => by simp at e
  | _ :: _, [], _, _, _, _, _, _, e => by simp at e
  | x :: xs, y :: ys, _, _, _, r, r', c, e => by
    cases r with
    | cons p1 p2 =>
      cases r' with
      | cons q1 q2 =>
        have cc := cmpOks_cons c
        rw [PyData.eqvAll, same_eqv x y _ _ _ p1 q1 cc.1, sames_eqv xs ys _ _ _ p2 q2 cc.2 (by simpa using e)]
        rfl
end
theorem hu0 {A : Around} {n : Nat} (h : A.units + n < cLine) : A.units < cLine := by omega
theorem hu1 {A : Around} {da db : List PyData} (h : A.units + min (PyData.depthAll da + 1) (PyData.depthAll db + 1) < cLine) : A.in1.units + min (PyData.depthAll da) (PyData.depthAll db) < cLine := by
  have e : A.in1.units = A.units + 1 := rfl
  omega
mutual
theorem eqAt_cmp : ∀ (da db : PyData) (A : Around) (s : Shared) (a b : Value) (as bs : List Addr), Reads s.heap a da as → Reads s.heap b db bs → cmpOk da db = true → A.units + min da.depth db.depth < cLine → EqAt A s a b (PyData.eqv da db)
  | .none, db, A, s, _, _, _, _, ra, rb, c, hu => by
    cases ra
    cases rb with
    | none => exact EqAt.same _
    | bool y => exact EqAt.none_bool y
    | int y ty => exact EqAt.none_int y ty
    | str y ty => exact EqAt.none_str y ty
    | list y1 y2 y3 y4 => exact EqAt.none_list ⟨_, y1, y2, _, y3⟩ (hu0 hu)
    | tuple y1 y2 y3 y4 => exact EqAt.none_tuple ⟨_, y1, y2, _, y3⟩ (hu0 hu)
    | dict => simp [cmpOk] at c
  | .bool x, db, A, s, _, _, _, _, ra, rb, c, hu => by
    cases ra
    cases rb with
    | none => exact EqAt.bool_none x
    | bool y => exact EqAt.bool_bool x y
    | int y ty => exact EqAt.bool_int x y ty
    | str y ty => exact EqAt.bool_str x y ty
    | list y1 y2 y3 y4 => exact EqAt.bool_list x ⟨_, y1, y2, _, y3⟩ (hu0 hu)
    | tuple y1 y2 y3 y4 => exact EqAt.bool_tuple x ⟨_, y1, y2, _, y3⟩ (hu0 hu)
    | dict => simp [cmpOk] at c
  | .int x, db, A, s, _, _, _, _, ra, rb, c, hu => by
    cases ra with
    | int _ tx =>
    cases rb with
    | none => exact EqAt.int_none x tx
    | bool y => exact EqAt.int_bool x tx y
    | int y ty => exact EqAt.int_int x tx y ty
    | str y ty => exact EqAt.int_str x tx y ty
    | list y1 y2 y3 y4 => exact EqAt.int_list x tx ⟨_, y1, y2, _, y3⟩ (hu0 hu)
    | tuple y1 y2 y3 y4 => exact EqAt.int_tuple x tx ⟨_, y1, y2, _, y3⟩ (hu0 hu)
    | dict => simp [cmpOk] at c
  | .str x, db, A, s, _, _, _, _, ra, rb, c, hu => by
    cases ra with
    | str _ tx =>
    cases rb with
    | none => exact EqAt.str_none x tx
    | bool y => exact EqAt.str_bool x tx y
    | int y ty => exact EqAt.str_int x tx y ty
    | str y ty => exact EqAt.str_str x tx y ty
    | list y1 y2 y3 y4 => exact EqAt.str_list x tx ⟨_, y1, y2, _, y3⟩ (hu0 hu)
    | tuple y1 y2 y3 y4 => exact EqAt.str_tuple x tx ⟨_, y1, y2, _, y3⟩ (hu0 hu)
    | dict => simp [cmpOk] at c
  | .list xs, db, A, s, _, _, _, _, ra, rb, c, hu => by
    cases ra with
    | @list l o vs n _ as₁ x1 x2 x3 x4 =>
    cases rb with
    | none => exact EqAt.list_none ⟨_, x1, x2, _, x3⟩ (hu0 hu)
    | bool y => exact EqAt.list_bool y ⟨_, x1, x2, _, x3⟩ (hu0 hu)
    | int y ty => exact EqAt.list_int y ty ⟨_, x1, x2, _, x3⟩ (hu0 hu)
    | str y ty => exact EqAt.list_str y ty ⟨_, x1, x2, _, x3⟩ (hu0 hu)
    | @list l' o' vs' n' ys bs₁ y1 y2 y3 y4 =>
      have nx : vs.size = xs.length := by simpa using ReadsAll.length _ _ _ x4
      have ny : vs'.size = ys.length := by simpa using ReadsAll.length _ _ _ y4
      have sx : s.heap.IsList l vs := ⟨_, x1, x2, _, x3⟩
      have sy : s.heap.IsList l' vs' := ⟨_, y1, y2, _, y3⟩
      by_cases hll : l = l'
      · subst hll
        rw [same_eqv _ _ _ _ _ (.list x1 x2 x3 x4) (.list y1 y2 y3 y4) c]
        exact EqAt.same _
      · rw [PyData.eqv]
        by_cases hsz : vs.size = vs'.size
        · rw [← eqvAll_same_length (show xs.length = ys.length by omega), ← nx]
          refine EqAt.of_refs hll (RcAt.lists sx sy hsz (hu0 hu) fun j j1 j2 => ?_)
          have q := eqAt_cmps xs ys A.in1 s vs.toList vs'.toList _ _ x4 y4 (cmp_ll c (by omega)) (hu1 (by simpa [PyData.depth] using hu)) j (by simpa using j1) (by simpa using j2)
          simpa using q
        · rw [eqvAll_other_length (show xs.length ≠ ys.length by omega)]
          exact EqAt.of_refs hll (RcAt.lists_lengths sx sy (by simpa using hsz) (hu0 hu))
    | tuple y1 y2 y3 y4 => exact EqAt.list_tuple ⟨_, x1, x2, _, x3⟩ ⟨_, y1, y2, _, y3⟩ (hu0 hu)
    | dict => simp [cmpOk] at c
  | .tuple xs, db, A, s, _, _, _, _, ra, rb, c, hu => by
    cases ra with
    | @tuple l o vs n _ as₁ x1 x2 x3 x4 =>
    cases rb with
    | none => exact EqAt.tuple_none ⟨_, x1, x2, _, x3⟩ (hu0 hu)
    | bool y => exact EqAt.tuple_bool y ⟨_, x1, x2, _, x3⟩ (hu0 hu)
    | int y ty => exact EqAt.tuple_int y ty ⟨_, x1, x2, _, x3⟩ (hu0 hu)
    | str y ty => exact EqAt.tuple_str y ty ⟨_, x1, x2, _, x3⟩ (hu0 hu)
    | list y1 y2 y3 y4 => exact EqAt.tuple_list ⟨_, x1, x2, _, x3⟩ ⟨_, y1, y2, _, y3⟩ (hu0 hu)
    | @tuple l' o' vs' n' ys bs₁ y1 y2 y3 y4 =>
      have nx : vs.size = xs.length := by simpa using ReadsAll.length _ _ _ x4
      have ny : vs'.size = ys.length := by simpa using ReadsAll.length _ _ _ y4
      have sx : s.heap.IsTuple l vs := ⟨_, x1, x2, _, x3⟩
      have sy : s.heap.IsTuple l' vs' := ⟨_, y1, y2, _, y3⟩
      by_cases hll : l = l'
      · subst hll
        rw [same_eqv _ _ _ _ _ (.tuple x1 x2 x3 x4) (.tuple y1 y2 y3 y4) c]
        exact EqAt.same _
      · rw [PyData.eqv]
        rw [← eqvAll_eq xs ys, ← nx, ← ny]
        refine EqAt.of_refs hll (RcAt.tuples sx sy (hu0 hu) fun j j1 j2 => ?_)
        have q := eqAt_cmps xs ys A.in1 s vs.toList vs'.toList _ _ x4 y4 (cmp_tt c) (hu1 (by simpa [PyData.depth] using hu)) j (by simpa using j1) (by simpa using j2)
        simpa using q
    | dict => simp [cmpOk] at c
  | .dict _, db, _, _, _, _, _, _, _, _, c, _ => by cases db <;> simp [cmpOk] at c
theorem eqAt_cmps : ∀ (xs ys : List PyData) (A : Around) (s : Shared) (vs ws : List Value) (as bs : List Addr), ReadsAll s.heap vs xs as → ReadsAll s.heap ws ys bs → cmpOks xs ys = true →
    A.units + min (PyData.depthAll xs) (PyData.depthAll ys) < cLine → ∀ j (h1 : j < vs.length) (h2 : j < ws.length), EqAt A s vs[j] ws[j] (pairEq xs ys j)
  | [], _, _, _, _, _, _, _, ra, _, _, _, j, h1, _ => by cases ra; exact absurd h1 (Nat.not_lt_zero _)
  | _ :: _, [], _, _, _, _, _, _, _, rb, _, _, j, _, h2 => by cases rb; exact absurd h2 (Nat.not_lt_zero _)
  | x :: xs, y :: ys, A, s, _, _, _, _, ra, rb, c, hu, j, h1, h2 => by
    cases ra with
    | cons p1 p2 =>
      cases rb with
      | cons q1 q2 =>
        have cc := cmpOks_cons c
        simp only [PyData.depthAll] at hu
        cases j with
        | zero => exact eqAt_cmp x y A s _ _ _ _ p1 q1 cc.1 (by omega)
        | succ j => exact eqAt_cmps xs ys A s _ _ _ _ p2 q2 cc.2 (by omega) j (by simpa using h1) (by simpa using h2)
end
/-- a list or a tuple -/
def isSeq : PyData → Bool
  | .list _ => true
  | .tuple _ => true
  | _ => false
theorem rcAt_cmp {da db : PyData} {A : Around} {s : Shared} {a b : Value} {as bs : List Addr} (ra : Reads s.heap a da as) (rb : Reads s.heap b db bs) (hq : (isSeq da || isSeq db) = true) (c : cmpOk da db = true) (hu : A.units + min da.depth db.depth < cLine) : RcAt A s a b (PyData.eqv da db) := by
  cases ra with
  | none =>
    cases rb with
    | none => simp [isSeq] at hq
    | bool y => simp [isSeq] at hq
    | int y ty => simp [isSeq] at hq
    | str y ty => simp [isSeq] at hq
    | list y1 y2 y3 y4 => exact RcAt.none_list ⟨_, y1, y2, _, y3⟩ (hu0 hu)
    | tuple y1 y2 y3 y4 => exact RcAt.none_tuple ⟨_, y1, y2, _, y3⟩ (hu0 hu)
    | dict => simp [cmpOk] at c
  | bool x =>
    cases rb with
    | none => simp [isSeq] at hq
    | bool y => simp [isSeq] at hq
    | int y ty => simp [isSeq] at hq
    | str y ty => simp [isSeq] at hq
    | list y1 y2 y3 y4 => exact RcAt.bool_list x ⟨_, y1, y2, _, y3⟩ (hu0 hu)
    | tuple y1 y2 y3 y4 => exact RcAt.bool_tuple x ⟨_, y1, y2, _, y3⟩ (hu0 hu)
    | dict => simp [cmpOk] at c
  | int x tx =>
    cases rb with
    | none => simp [isSeq] at hq
    | bool y => simp [isSeq] at hq
    | int y ty => simp [isSeq] at hq
    | str y ty => simp [isSeq] at hq
    | list y1 y2 y3 y4 => exact RcAt.int_list x tx ⟨_, y1, y2, _, y3⟩ (hu0 hu)
    | tuple y1 y2 y3 y4 => exact RcAt.int_tuple x tx ⟨_, y1, y2, _, y3⟩ (hu0 hu)
    | dict => simp [cmpOk] at c
  | str x tx =>
    cases rb with
    | none => simp [isSeq] at hq
    | bool y => simp [isSeq] at hq
    | int y ty => simp [isSeq] at hq
    | str y ty => simp [isSeq] at hq
    | list y1 y2 y3 y4 => exact RcAt.str_list x tx ⟨_, y1, y2, _, y3⟩ (hu0 hu)
    | tuple y1 y2 y3 y4 => exact RcAt.str_tuple x tx ⟨_, y1, y2, _, y3⟩ (hu0 hu)
    | dict => simp [cmpOk] at c
  | @list l o vs n xs as₁ x1 x2 x3 x4 =>
    cases rb with
    | none => exact RcAt.list_none ⟨_, x1, x2, _, x3⟩ (hu0 hu)
    | bool y => exact RcAt.list_bool y ⟨_, x1, x2, _, x3⟩ (hu0 hu)
    | int y ty => exact RcAt.list_int y ty ⟨_, x1, x2, _, x3⟩ (hu0 hu)
    | str y ty => exact RcAt.list_str y ty ⟨_, x1, x2, _, x3⟩ (hu0 hu)
    | @list l' o' vs' n' ys bs₁ y1 y2 y3 y4 =>
      have nx : vs.size = xs.length := by simpa using ReadsAll.length _ _ _ x4
      have ny : vs'.size = ys.length := by simpa using ReadsAll.length _ _ _ y4
      have sx : s.heap.IsList l vs := ⟨_, x1, x2, _, x3⟩
      have sy : s.heap.IsList l' vs' := ⟨_, y1, y2, _, y3⟩
      have each : cmpOks xs ys = true → ∀ j (j1 : j < vs.size) (j2 : j < vs'.size), EqAt A.in1 s vs[j] vs'[j] (pairEq xs ys j) := fun cc j j1 j2 => by
        have q := eqAt_cmps xs ys A.in1 s vs.toList vs'.toList _ _ x4 y4 cc (hu1 (by simpa [PyData.depth] using hu)) j (by simpa using j1) (by simpa using j2)
        simpa using q
      rw [PyData.eqv]
      by_cases hsz : vs.size = vs'.size
      · rw [← eqvAll_same_length (show xs.length = ys.length by omega), ← nx]
        exact RcAt.lists sx sy hsz (hu0 hu) (each (cmp_ll c (by omega)))
      · rw [eqvAll_other_length (show xs.length ≠ ys.length by omega)]
        exact RcAt.lists_lengths sx sy (by simpa using hsz) (hu0 hu)
    | tuple y1 y2 y3 y4 => exact RcAt.list_tuple ⟨_, x1, x2, _, x3⟩ ⟨_, y1, y2, _, y3⟩ (hu0 hu)
    | dict => simp [cmpOk] at c
  | @tuple l o vs n xs as₁ x1 x2 x3 x4 =>
    cases rb with
    | none => exact RcAt.tuple_none ⟨_, x1, x2, _, x3⟩ (hu0 hu)
    | bool y => exact RcAt.tuple_bool y ⟨_, x1, x2, _, x3⟩ (hu0 hu)
    | int y ty => exact RcAt.tuple_int y ty ⟨_, x1, x2, _, x3⟩ (hu0 hu)
    | str y ty => exact RcAt.tuple_str y ty ⟨_, x1, x2, _, x3⟩ (hu0 hu)
    | list y1 y2 y3 y4 => exact RcAt.tuple_list ⟨_, x1, x2, _, x3⟩ ⟨_, y1, y2, _, y3⟩ (hu0 hu)
    | @tuple l' o' vs' n' ys bs₁ y1 y2 y3 y4 =>
      have nx : vs.size = xs.length := by simpa using ReadsAll.length _ _ _ x4
      have ny : vs'.size = ys.length := by simpa using ReadsAll.length _ _ _ y4
      have sx : s.heap.IsTuple l vs := ⟨_, x1, x2, _, x3⟩
      have sy : s.heap.IsTuple l' vs' := ⟨_, y1, y2, _, y3⟩
      have each : cmpOks xs ys = true → ∀ j (j1 : j < vs.size) (j2 : j < vs'.size), EqAt A.in1 s vs[j] vs'[j] (pairEq xs ys j) := fun cc j j1 j2 => by
        have q := eqAt_cmps xs ys A.in1 s vs.toList vs'.toList _ _ x4 y4 cc (hu1 (by simpa [PyData.depth] using hu)) j (by simpa using j1) (by simpa using j2)
        simpa using q
      rw [PyData.eqv]
      rw [← eqvAll_eq xs ys, ← nx, ← ny]
      exact RcAt.tuples sx sy (hu0 hu) (each (cmp_tt c))
    | dict => simp [cmpOk] at c
  | dict => cases db <;> simp [cmpOk] at c
theorem rcNe_cmp {da db : PyData} {A : Around} {s : Shared} {a b : Value} {as bs : List Addr} (ra : Reads s.heap a da as) (rb : Reads s.heap b db bs) (hq : (isSeq da || isSeq db) = true) (c : cmpOk da db = true) (hu : A.units + min da.depth db.depth < cLine) : RcNeAt A s a b (!PyData.eqv da db) := by
  cases ra with
  | none =>
    cases rb with
    | none => simp [isSeq] at hq
    | bool y => simp [isSeq] at hq
    | int y ty => simp [isSeq] at hq
    | str y ty => simp [isSeq] at hq
    | list y1 y2 y3 y4 => exact RcNeAt.none_list ⟨_, y1, y2, _, y3⟩ (hu0 hu)
    | tuple y1 y2 y3 y4 => exact RcNeAt.none_tuple ⟨_, y1, y2, _, y3⟩ (hu0 hu)
    | dict => simp [cmpOk] at c
  | bool x =>
    cases rb with
    | none => simp [isSeq] at hq
    | bool y => simp [isSeq] at hq
    | int y ty => simp [isSeq] at hq
    | str y ty => simp [isSeq] at hq
    | list y1 y2 y3 y4 => exact RcNeAt.bool_list x ⟨_, y1, y2, _, y3⟩ (hu0 hu)
    | tuple y1 y2 y3 y4 => exact RcNeAt.bool_tuple x ⟨_, y1, y2, _, y3⟩ (hu0 hu)
    | dict => simp [cmpOk] at c
  | int x tx =>
    cases rb with
    | none => simp [isSeq] at hq
    | bool y => simp [isSeq] at hq
    | int y ty => simp [isSeq] at hq
    | str y ty => simp [isSeq] at hq
    | list y1 y2 y3 y4 => exact RcNeAt.int_list x tx ⟨_, y1, y2, _, y3⟩ (hu0 hu)
    | tuple y1 y2 y3 y4 => exact RcNeAt.int_tuple x tx ⟨_, y1, y2, _, y3⟩ (hu0 hu)
    | dict => simp [cmpOk] at c
  | str x tx =>
    cases rb with
    | none => simp [isSeq] at hq
    | bool y => simp [isSeq] at hq
    | int y ty => simp [isSeq] at hq
    | str y ty => simp [isSeq] at hq
    | list y1 y2 y3 y4 => exact RcNeAt.str_list x tx ⟨_, y1, y2, _, y3⟩ (hu0 hu)
    | tuple y1 y2 y3 y4 => exact RcNeAt.str_tuple x tx ⟨_, y1, y2, _, y3⟩ (hu0 hu)
    | dict => simp [cmpOk] at c
  | @list l o vs n xs as₁ x1 x2 x3 x4 =>
    cases rb with
    | none => exact RcNeAt.list_none ⟨_, x1, x2, _, x3⟩ (hu0 hu)
    | bool y => exact RcNeAt.list_bool y ⟨_, x1, x2, _, x3⟩ (hu0 hu)
    | int y ty => exact RcNeAt.list_int y ty ⟨_, x1, x2, _, x3⟩ (hu0 hu)
    | str y ty => exact RcNeAt.list_str y ty ⟨_, x1, x2, _, x3⟩ (hu0 hu)
    | @list l' o' vs' n' ys bs₁ y1 y2 y3 y4 =>
      have nx : vs.size = xs.length := by simpa using ReadsAll.length _ _ _ x4
      have ny : vs'.size = ys.length := by simpa using ReadsAll.length _ _ _ y4
      have sx : s.heap.IsList l vs := ⟨_, x1, x2, _, x3⟩
      have sy : s.heap.IsList l' vs' := ⟨_, y1, y2, _, y3⟩
      have each : cmpOks xs ys = true → ∀ j (j1 : j < vs.size) (j2 : j < vs'.size), EqAt A.in1 s vs[j] vs'[j] (pairEq xs ys j) := fun cc j j1 j2 => by
        have q := eqAt_cmps xs ys A.in1 s vs.toList vs'.toList _ _ x4 y4 cc (hu1 (by simpa [PyData.depth] using hu)) j (by simpa using j1) (by simpa using j2)
        simpa using q
      rw [PyData.eqv]
      by_cases hsz : vs.size = vs'.size
      · rw [← eqvAll_same_length (show xs.length = ys.length by omega), ← nx]
        exact RcNeAt.lists sx sy hsz (hu0 hu) (each (cmp_ll c (by omega)))
      · rw [eqvAll_other_length (show xs.length ≠ ys.length by omega)]
        exact RcNeAt.lists_lengths sx sy (by simpa using hsz) (hu0 hu)
    | tuple y1 y2 y3 y4 => exact RcNeAt.list_tuple ⟨_, x1, x2, _, x3⟩ ⟨_, y1, y2, _, y3⟩ (hu0 hu)
    | dict => simp [cmpOk] at c
  | @tuple l o vs n xs as₁ x1 x2 x3 x4 =>
    cases rb with
    | none => exact RcNeAt.tuple_none ⟨_, x1, x2, _, x3⟩ (hu0 hu)
    | bool y => exact RcNeAt.tuple_bool y ⟨_, x1, x2, _, x3⟩ (hu0 hu)
    | int y ty => exact RcNeAt.tuple_int y ty ⟨_, x1, x2, _, x3⟩ (hu0 hu)
    | str y ty => exact RcNeAt.tuple_str y ty ⟨_, x1, x2, _, x3⟩ (hu0 hu)
    | list y1 y2 y3 y4 => exact RcNeAt.tuple_list ⟨_, x1, x2, _, x3⟩ ⟨_, y1, y2, _, y3⟩ (hu0 hu)
    | @tuple l' o' vs' n' ys bs₁ y1 y2 y3 y4 =>
      have nx : vs.size = xs.length := by simpa using ReadsAll.length _ _ _ x4
      have ny : vs'.size = ys.length := by simpa using ReadsAll.length _ _ _ y4
      have sx : s.heap.IsTuple l vs := ⟨_, x1, x2, _, x3⟩
      have sy : s.heap.IsTuple l' vs' := ⟨_, y1, y2, _, y3⟩
      have each : cmpOks xs ys = true → ∀ j (j1 : j < vs.size) (j2 : j < vs'.size), EqAt A.in1 s vs[j] vs'[j] (pairEq xs ys j) := fun cc j j1 j2 => by
        have q := eqAt_cmps xs ys A.in1 s vs.toList vs'.toList _ _ x4 y4 cc (hu1 (by simpa [PyData.depth] using hu)) j (by simpa using j1) (by simpa using j2)
        simpa using q
      rw [PyData.eqv]
      rw [← eqvAll_eq xs ys, ← nx, ← ny]
      exact RcNeAt.tuples sx sy (hu0 hu) (each (cmp_tt c))
    | dict => simp [cmpOk] at c
  | dict => cases db <;> simp [cmpOk] at c
end HC
set_option Elab.async false
set_option linter.all false
set_option maxRecDepth 100000
set_option autoImplicit false
/-! HC, part C: comparisons, truth, repr by data. -/
namespace HC
open PySem PySem.Spec PyProof.Rows L2
/-! ### data as it is read off the heap -/
theorem key_rel {k : Key} {u : Value} (h : keyIs k u = true) : RelV (kV k) u := by
  rcases keyIs_shape h with ⟨i, t, rfl, rfl⟩ | ⟨x, t, rfl, rfl⟩
  · exact ⟨t, rfl⟩
  · exact ⟨t, rfl⟩
theorem pairs_vals {P : Program} {w : World} : ∀ {kvs : List (Key × V)} {vs : List (Key × Value)} {es : List DictEntry}, KV kvs vs → Pairs (mixKind P w) es vs → Vals (kvs.map fun kv => kV kv.1) (es.map (·.key)) ∧ Vals (kvs.map (·.2)) (es.map (·.val))
  | [], _, es, h, p => by
    cases h
    cases p
    exact ⟨.nil, .nil⟩
  | (k, v) :: kvs, _, es, h, p => by
    cases h with
    | cons r t =>
      cases p with
      | cons h1 h2 h3 =>
        obtain ⟨a1, a2⟩ := pairs_vals t h3
        obtain ⟨r1, r2⟩ := r
        refine ⟨.cons ?_ a1, .cons ?_ a2⟩
        · have e : k = _ := r1
          rw [e]
          exact key_rel h1
        · dsimp only
          rw [h2]
          exact r2
theorem reads_key {h : Heap} {k : Key} {u : Value} (r : RelV (kV k) u) : Reads h u (kD k) [] := by
  cases k with
  | inl i => obtain ⟨t, rfl⟩ := r; exact .int i t
  | inr x => obtain ⟨t, rfl⟩ := r; exact .str x t
theorem reads_keys {h : Heap} : ∀ {kvs : List (Key × V)} {us : List Value}, Vals (kvs.map fun kv => kV kv.1) us → ReadsAll h us (kvs.map fun kv => kD kv.1) []
  | [], us, r => by cases r; exact .nil
  | kv :: kvs, us, r => by
    cases r with
    | cons r1 r2 => exact ReadsAll.cons (as := []) (bs := []) (reads_key r1) (reads_keys r2)
theorem RpKv.keys {K : PySem.W.Frag} {H : Hp} : ∀ {kvs : List (Key × V)} {ds : List (D × D)}, RpKv K H kvs ds → kvs.map (fun kv => kD kv.1) = ds.map (·.1)
  | _, [], h => by cases h; rfl
  | _, (_, d) :: ds, h => by
    cases h with
    | cons h1 h2 => simp [RpKv.keys h2]
theorem RpKv.vals {K : PySem.W.Frag} {H : Hp} : ∀ {kvs : List (Key × V)} {ds : List (D × D)}, RpKv K H kvs ds → RpAll K H (kvs.map (·.2)) (ds.map (·.2))
  | _, [], h => by cases h; exact .nil
  | _, (_, d) :: ds, h => by
    cases h with
    | cons h1 h2 => exact .cons h1 h2.vals
def Low (X : Cx) : Prop := ∃ o, X.K.lookup sysModules = some o
section
variable {X : Cx} {pins : List (Addr × Obj)} {σ : St} {H : Hp} {s : Shared}
theorem Low.ne (L : Low X) (I : Inv X pins σ H s) {a : Addr} {o : HO} (h : H a = some o) : sysModules ≠ a := by
  obtain ⟨ob, e⟩ := L
  intro z
  have := (I.bs _ _ (I.mod.kin _ _ e)).2
  rw [z, h] at this
  cases this
theorem Low.ne_rd (L : Low X) (I : Inv X pins σ H s) {a : Addr} {o : HO} (h : Rd H a o) : sysModules ≠ a := by
  rcases h with h | ⟨_, h⟩
  · exact L.ne I h
  · exact L.ne I h
mutual
theorem Rp.reads (L : Low X) (I : Inv X pins σ H s) : ∀ (d : D) (v : V) (u : Value), Rp X.K H v d → RelV v u → ∃ as, Reads s.heap u d as ∧ sysModules ∉ as
  | .none, _, _, h, r => by
    cases h
    cases r
    exact ⟨_, .none, by simp⟩
  | .bool b, _, _, h, r => by
    cases h
    cases r
    exact ⟨_, .bool b, by simp⟩
  | .int i, _, _, h, r => by
    cases h
    obtain ⟨t, rfl⟩ := r
    exact ⟨_, .int i t, by simp⟩
  | .str x, _, _, h, r => by
    cases h
    obtain ⟨t, rfl⟩ := r
    exact ⟨_, .str x t, by simp⟩
  | .list ds, _, _, h, r => by
    cases h with
    | lst hs ha =>
      cases r
      obtain ⟨_, its, n, rv, _, e⟩ := lstR I hs
      obtain ⟨as, hr, hn⟩ := RpAll.reads L I ds _ its ha rv
      exact ⟨_, .list e rfl rfl hr, fun z => (List.mem_cons.mp z).elim (L.ne_rd I hs) hn⟩
  | .tuple ds, _, _, h, r => by
    cases h with
    | tup hs ha =>
      cases r
      obtain ⟨its, rv, ⟨o, ho, hc, n, hd⟩, _⟩ := I.tuple hs
      obtain ⟨as, hr, hn⟩ := RpAll.reads L I ds _ its ha rv
      exact ⟨_, .tuple ho hc hd hr, hn⟩
  | .dict ds, _, _, h, r => by
    cases h with
    | dct hs ha =>
      cases r
      obtain ⟨_, _, vs, kv, o, es, ep, ho, hx, hd, _, hp, _⟩ := dk_rd I.hok hs
      obtain ⟨v1, v2⟩ := pairs_vals kv hp
      obtain ⟨as, hr, hn⟩ := RpKv.reads L I ds _ _ ha v2
      have hk := reads_keys (h := s.heap) v1
      rw [ha.keys] at hk
      refine ⟨_, .dict ho hx.1 hd hk hr, fun z => ?_⟩
      rcases List.mem_append.mp z with z | z
      · rcases List.mem_cons.mp z with z | z
        · exact L.ne_rd I hs z
        · cases z
      · exact hn z
theorem RpAll.reads (L : Low X) (I : Inv X pins σ H s) : ∀ (ds : List D) (vs : List V) (us : List Value), RpAll X.K H vs ds → Vals vs us → ∃ as, ReadsAll s.heap us ds as ∧ sysModules ∉ as
  | [], _, _, h, r => by
    cases h
    cases r
    exact ⟨_, .nil, by simp⟩
  | d :: ds, _, _, h, r => by
    cases h with
    | cons h1 h2 =>
      cases r with
      | cons r1 r2 =>
        obtain ⟨as, q1, n1⟩ := Rp.reads L I d _ _ h1 r1
        obtain ⟨bs, q2, n2⟩ := RpAll.reads L I ds _ _ h2 r2
        exact ⟨_, .cons q1 q2, fun z => (List.mem_append.mp z).elim n1 n2⟩
theorem RpKv.reads (L : Low X) (I : Inv X pins σ H s) : ∀ (ds : List (D × D)) (vs : List (Key × V)) (us : List Value), RpKv X.K H vs ds → Vals (vs.map (·.2)) us → ∃ as, ReadsAll s.heap us (ds.map (·.2)) as ∧ sysModules ∉ as
  | [], _, _, h, r => by
    cases h
    cases r
    exact ⟨_, .nil, by simp⟩
  | (k, d) :: ds, _, _, h, r => by
    cases h with
    | cons h1 h2 =>
      cases r with
      | cons r1 r2 =>
        obtain ⟨as, q1, n1⟩ := Rp.reads L I d _ _ h1 r1
        obtain ⟨bs, q2, n2⟩ := RpKv.reads L I ds _ _ h2 r2
        exact ⟨_, .cons q1 q2, fun z => (List.mem_append.mp z).elim n1 n2⟩
end
end
/-! ### comparisons -/
def scalD : D → D → Bool
  | .none, .none => true | .none, .int _ => true | .int _, .none => true | .none, .bool _ => true | .bool _, .none => true | .none, .str _ => true | .str _, .none => true
  | .int _, .int _ => true | .bool _, .bool _ => true | .str _, .str _ => true
  | .int _, .str _ => true | .str _, .int _ => true | .bool _, .str _ => true | .str _, .bool _ => true
  | _, _ => false
def seqEq (a b : D) : Bool := (isSeq a || isSeq b) && (cmpOk a b && decide (min a.depth b.depth ≤ 64))
def okEq (a b : D) : Bool := scalD a b || (SeqAt.shaped a && SeqAt.shaped b) || seqEq a b
def dEq (a b : D) : Option Bool := if okEq a b = true then some (PyData.eqv a b) else none
def asInts : List D → Option (List Int)
  | [] => some []
  | .int i :: r => (asInts r).map (i :: ·)
  | _ => none
/-- the value that a dict holds at a key -/
def keyOf : D → Option Key
  | .int i => some (.inl i)
  | .str x => some (.inr x)
  | _ => none
def dGet (ds : List (D × D)) (k : Key) : Option D := (ds.find? fun kv => match keyOf kv.1 with | some j => decide (j = k) | none => false).map (·.2)
def flatD : D → Bool
  | .none => true
  | .bool _ => true
  | .int _ => true
  | .str _ => true
  | _ => false
def dIn : D → D → Option Bool
  | .str x, .str z => match x.cps.toList with
    | [c] => some (decide (c ∈ z.cps.toList))
    | _ => none
  | d, .list ds => if flatD d = true ∧ ds.all flatD = true then some (ds.any fun z => PyData.eqv z d) else if SeqAt.shaped d = true ∧ SeqAt.shaped (.list ds) = true then some (ds.any fun z => PyData.eqv z d) else none
  | d, .tuple ds => if flatD d = true ∧ ds.all flatD = true then some (ds.any fun z => PyData.eqv z d) else if SeqAt.shaped d = true ∧ SeqAt.shaped (.tuple ds) = true then some (ds.any fun z => PyData.eqv z d) else none
  | d, .dict ds => match keyOf d with
    | some k => some (dGet ds k).isSome
    | none => none
  | _, _ => none
def dIs : D → D → Option Bool
  | .none, .none => some true
  | .bool _, .none => some false
  | .int _, .none => some false
  | .str _, .none => some false
  | .list _, .none => some false
  | .tuple _, .none => some false
  | .dict _, .none => some false
  | .bool a, .bool b => some (decide (a = b))
  | .none, .bool _ => some false
  | _, _ => none
def dCmp : CmpOp → D → D → Option Bool
  | .Eq, a, b => dEq a b
  | .NotEq, a, b => (dEq a b).map (!·)
  | .Lt, .int i, .int j => some (decide (i < j))
  | .Lt, .str i, .str j => some (decide (i.cps.toList < j.cps.toList))
  | .Lt, .tuple xs, .tuple ys => (match asInts xs, asInts ys with
    | some ns, some ms => some (HT.lexLt ns ms)
    | _, _ => none)
  | .LtE, .int i, .int j => some (decide (i ≤ j))
  | .Gt, .int i, .int j => some (decide (j < i))
  | .GtE, .int i, .int j => some (decide (j ≤ i))
  | .In, a, b => dIn a b
  | .NotIn, a, b => (dIn a b).map (!·)
  | .Is, a, b => dIs a b
  | .IsNot, a, b => (dIs a b).map (!·)
  | _, _, _ => none
def dCmpR (op : CmpOp) (a b : D) : Option (D × Bool) := match dCmp op a b with
  | some c => some (.bool c, false)
  | none => none
section
variable {X : Cx}
theorem RB.cases {K : PySem.W.Frag} {G H : Hp} {v : V} {d : D} (e : Same G H) (h : RB K G H v d) : Rp K H v d := h.rp e
theorem RB.scal {K : PySem.W.Frag} {G H : Hp} {x y : V} {a b : D} (ra : RB K G H x a) (rb : RB K G H y b) (h : scalD a b = true) : scal x y = true ∧ decide (x = y) = PyData.eqv a b := by
  cases a <;> cases b <;> first
    | (cases h; done)
    | skip
  all_goals
    (first | (have ex := ra.none) | (have ex := ra.int) | (have ex := ra.str) | (have ex := ra.bool))
    (first | (have ey := rb.none) | (have ey := rb.int) | (have ey := rb.str) | (have ey := rb.bool))
    subst ex ey
    refine ⟨rfl, ?_⟩
    simp only [PyData.eqv]
    first
      | rfl
      | exact dec_int
      | exact dec_bl
      | exact dec_str
      | (rw [decide_eq_true_eq]; done)
      | simp
/-- a comparison by data -/
def OpC (X : Cx) (op : CmpOp) (g : D → D → Option Bool) : Prop := ∀ (pins : List (Addr × Obj)) (s : Shared) (σ : St) (H G : Hp) (x y : V) (v u : Value) (a b : D) (c : Bool) (Q : VK), Inv X pins σ H s → RelV x v → RelV y u → Same G H →
  RB X.K G H x a → RB X.K G H y b → g a b = some c → Q (.bl c) H → wpAny (model X.prog X.w) X.A (compareOp op v u) (EP X pins σ Q) X.xe s
theorem OpC.neg {op op' : CmpOp} {g : D → D → Option Bool} (h : ∀ (pins : List (Addr × Obj)) (s : Shared) (σ : St) (H G : Hp) (x y : V) (v u : Value) (a b : D) (c : Bool) (Q : VK), Inv X pins σ H s → RelV x v → RelV y u → Same G H →
  RB X.K G H x a → RB X.K G H y b → g a b = some c → Q (.bl (!c)) H → wpAny (model X.prog X.w) X.A (compareOp op' v u) (EP X pins σ Q) X.xe s) : OpC X op' (fun a b => (g a b).map (!·)) := by
  intro pins s σ H G x y v u a b c Q I rx ry gh ra rb hg q
  cases e : g a b with
  | none => simp [e] at hg
  | some d =>
    have e2 : c = !d := by
      have := hg
      simp only [e, Option.map_some, Option.some.injEq] at this
      exact this.symm
    rw [e2] at q
    exact h pins s σ H G x y v u a b d Q I rx ry gh ra rb e q
theorem opc_eq (L : Low X) (hu : X.A.units + 64 < cLine) : OpC X .Eq dEq := by
  intro pins s σ H G x y v u a b c Q I rx ry gh ra rb hg q
  unfold dEq at hg
  split at hg
  · rename_i ho
    cases hg
    unfold okEq at ho
    by_cases hs : scalD a b = true
    · obtain ⟨s1, s2⟩ := RB.scal ra rb hs
      refine op_eq pins s σ H x y v u Q I rx ry ⟨s1, ?_⟩
      rw [s2]
      exact q
    · have hs' : scalD a b = false := by simpa using hs
      rw [hs', Bool.false_or, Bool.or_eq_true, Bool.and_eq_true] at ho
      obtain ⟨as, r1, _⟩ := Rp.reads L I a x v (ra.rp gh) rx
      obtain ⟨bs, r2, _⟩ := Rp.reads L I b y u (rb.rp gh) ry
      rcases ho with ho | ho
      · exact SeqAt.compareEq_shaped r1 r2 ho.1 ho.2 hu ⟨.bl _, H, I, rfl, q⟩
      · unfold seqEq at ho
        rw [Bool.and_eq_true, Bool.and_eq_true] at ho
        have hd := of_decide_eq_true ho.2.2
        exact rcAt_cmp r1 r2 ho.1 ho.2.1 (by omega) _ _ _ _ ⟨.bl _, H, I, rfl, q⟩
  · cases hg
theorem opc_ne (L : Low X) (hu : X.A.units + 64 < cLine) : OpC X .NotEq (fun a b => (dEq a b).map (!·)) := by
  refine OpC.neg (op := .Eq) fun pins s σ H G x y v u a b c Q I rx ry gh ra rb hg q => ?_
  unfold dEq at hg
  split at hg
  · rename_i ho
    cases hg
    unfold okEq at ho
    by_cases hs : scalD a b = true
    · obtain ⟨s1, s2⟩ := RB.scal ra rb hs
      refine op_ne pins s σ H x y v u Q I rx ry ⟨s1, ?_⟩
      rw [s2]
      exact q
    · have hs' : scalD a b = false := by simpa using hs
      rw [hs', Bool.false_or, Bool.or_eq_true, Bool.and_eq_true] at ho
      obtain ⟨as, r1, _⟩ := Rp.reads L I a x v (ra.rp gh) rx
      obtain ⟨bs, r2, _⟩ := Rp.reads L I b y u (rb.rp gh) ry
      rcases ho with ho | ho
      · exact SeqAt.compareNe_shaped r1 r2 ho.1 ho.2 hu ⟨.bl _, H, I, rfl, q⟩
      · unfold seqEq at ho
        rw [Bool.and_eq_true, Bool.and_eq_true] at ho
        have hd := of_decide_eq_true ho.2.2
        exact rcNe_cmp r1 r2 ho.1 ho.2.1 (by omega) _ _ _ _ ⟨.bl _, H, I, rfl, q⟩
  · cases hg
theorem is_plain {x y : V} {v u : Value} {G H : Hp} {K : PySem.W.Frag} {a b : D} {c : Bool} (gh : Same G H) (rx : RelV x v) (ry : RelV y u) (ra : RB K G H x a) (rb : RB K G H y b) (hg : dIs a b = some c) : plainIs v u = true ∧ (v == u) = c := by
  unfold dIs at hg
  split at hg <;> cases hg
  · have ex := ra.none; have ey := rb.none; subst ex ey; cases rx; cases ry; exact ⟨rfl, by simp⟩
  · have ex := ra.bool; have ey := rb.none; subst ex ey; cases rx; cases ry; exact ⟨rfl, by simp⟩
  · have ex := ra.int; have ey := rb.none; subst ex ey; obtain ⟨t, rfl⟩ := rx; cases ry; exact ⟨rfl, by simp⟩
  · have ex := ra.str; have ey := rb.none; subst ex ey; obtain ⟨t, rfl⟩ := rx; cases ry; exact ⟨rfl, by simp⟩
  · obtain ⟨p, vs, ex, _, _⟩ := ra.list gh; have ey := rb.none; subst ex ey; cases rx; cases ry; exact ⟨rfl, by simp⟩
  · obtain ⟨p, vs, ex, _, _⟩ := ra.tuple gh; have ey := rb.none; subst ex ey; cases rx; cases ry; exact ⟨rfl, by simp⟩
  · obtain ⟨p, vs, ex, _, _⟩ := ra.dict gh; have ey := rb.none; subst ex ey; cases rx; cases ry; exact ⟨rfl, by simp⟩
  · rename_i i j
    have ex := ra.bool; have ey := rb.bool; subst ex ey; cases rx; cases ry
    refine ⟨rfl, ?_⟩
    by_cases e : i = j
    · subst e; simp
    · simp [e]
  · have ex := ra.none; have ey := rb.bool; subst ex ey; cases rx; cases ry; exact ⟨rfl, by simp⟩
theorem opc_is : OpC X .Is dIs := by
  intro pins s σ H G x y v u a b c Q I rx ry gh ra rb hg q
  obtain ⟨h1, h2⟩ := is_plain gh rx ry ra rb hg
  exact wpAny_is_plain h1 ⟨.bl c, H, I, by rw [h2]; rfl, q⟩
theorem opc_isnot : OpC X .IsNot (fun a b => (dIs a b).map (!·)) := by
  refine OpC.neg (op := .Is) fun pins s σ H G x y v u a b c Q I rx ry gh ra rb hg q => ?_
  obtain ⟨h1, h2⟩ := is_plain gh rx ry ra rb hg
  exact wpAny_isNot_plain h1 ⟨.bl (!c), H, I, by rw [h2]; rfl, q⟩
theorem dGet_of {K : PySem.W.Frag} {G : Hp} (k : Key) : ∀ {kvs : List (Key × V)} {ds : List (D × D)}, RpKv K G kvs ds →
    (valV kvs k = none ∧ dGet ds k = none) ∨ ∃ v d, valV kvs k = some v ∧ dGet ds k = some d ∧ Rp K G v d
  | _, [], h => by cases h; exact .inl ⟨rfl, rfl⟩
  | _, (_, d) :: ds, h => by
    cases h with
    | cons h1 h2 =>
      rename_i j v vs
      have ej : keyOf (kD j) = some j := by cases j <;> rfl
      by_cases e : j = k
      · subst e
        refine .inr ⟨v, d, ?_, ?_, h1⟩
        · unfold valV; simp
        · unfold dGet; rw [List.find?_cons_of_pos (by simp [ej])]; rfl
      · have a1 : valV ((j, v) :: vs) k = valV vs k := by unfold valV; simp [e]
        have a2 : dGet ((kD j, d) :: ds) k = dGet ds k := by unfold dGet; simp [ej, e]
        rw [a1, a2]
        exact dGet_of k h2
theorem key_of {K : PySem.W.Frag} {G H : Hp} {x : V} {a : D} {k : Key} (ra : RB K G H x a) (h : keyOf a = some k) : x = kV k := by
  cases a with
  | int i => cases h; exact ra.int
  | str z => cases h; exact ra.str
  | _ => cases h
theorem sh_units {A : Around} {d e : D} (hd : SeqAt.shaped d = true) (hu : A.units + 65 < cLine) (n : Nat) : A.units + 1 + min n d.depth < cLine := by
  have h : (d.canLay0 && decide (d.depth ≤ 64)) = true := hd
  rw [Bool.and_eq_true] at h
  have h2 : d.depth ≤ 64 := of_decide_eq_true h.2
  have := Nat.min_le_right n d.depth
  omega
theorem lay_of {ds : List D} (h : SeqAt.shaped (.list ds) = true ∨ SeqAt.shaped (.tuple ds) = true) : PyData.canLayAll0 ds = true := by
  rcases h with h | h
  · exact SeqAt.canLay_of_shaped h
  · exact SeqAt.canLay_of_shaped h
theorem flat_V {K : PySem.W.Frag} {G : Hp} {x : V} {a : D} (r : Rp K G x a) (h : flatD a = true) : flatV x = true := by
  cases r <;> first | rfl | cases h
theorem flat_Vs {K : PySem.W.Frag} {G : Hp} : ∀ {vs : List V} {ds : List D}, RpAll K G vs ds → ds.all flatD = true → vs.all flatV = true
  | _, [], h, _ => by cases h; rfl
  | _, d :: ds, h, e => by
    rw [List.all_cons, Bool.and_eq_true] at e
    cases h with
    | cons h1 h2 => rw [List.all_cons, flat_V h1 e.1, flat_Vs h2 e.2]; rfl
theorem eqV_of {K : PySem.W.Frag} {G : Hp} {x y : V} {a b : D} (ra : Rp K G x a) (rb : Rp K G y b) (ha : flatD a = true) (hb : flatD b = true) : eqV x y = PyData.eqv a b := by
  cases ra <;> cases rb <;> first | (cases ha; done) | (cases hb; done) | (simp only [eqV, PyData.eqv]; done)
theorem inV_of {K : PySem.W.Frag} {G : Hp} {x : V} {a : D} (ra : Rp K G x a) (ha : flatD a = true) : ∀ {vs : List V} {ds : List D}, RpAll K G vs ds → ds.all flatD = true → inV x vs = ds.any fun z => PyData.eqv z a
  | _, [], h, _ => by cases h; rfl
  | _, d :: ds, h, e => by
    rw [List.all_cons, Bool.and_eq_true] at e
    cases h with
    | cons h1 h2 =>
      show (eqV _ x || inV x _) = _
      rw [eqV_of h1 ra e.1 ha, inV_of ra ha h2 e.2, List.any_cons]
theorem flat_rp {K : PySem.W.Frag} {G H : Hp} {x : V} {a : D} (r : RB K G H x a) (h : flatD a = true) : Rp K G x a := by
  rcases r with r | ⟨p, o, _, _, ho⟩
  · exact r
  · rcases ho with ⟨_, _, _, rfl, _⟩ | ⟨_, _, _, rfl, _⟩ <;> cases h
/-- what rIn asks, of flat data -/
theorem rIn_of {K : PySem.W.Frag} {neg : Bool} {G H : Hp} {x y : V} {a b : D} {ds : List D} {Q : VK} (gh : Same G H) (ra : RB K G H x a) (rb : RB K G H y b) (hb : b = .list ds ∨ b = .tuple ds) (h1 : flatD a = true) (h2 : ds.all flatD = true)
    (q : Q (.bl (if neg then !(ds.any fun z => PyData.eqv z a) else ds.any fun z => PyData.eqv z a)) H) : rIn K neg x y H Q := by
  have ra' := flat_rp ra h1
  rcases hb with rfl | rfl
  · obtain ⟨p, vs, ey, hd, hr⟩ := rb.list gh
    refine ⟨p, vs, ey, .inl ?_, flat_V ra' h1, flat_Vs hr h2, ?_⟩
    · rcases hd with hd | ⟨o, hd⟩
      · exact .inl (.inl hd)
      · exact .inl (.inr ⟨o, hd⟩)
    · rw [inV_of ra' h1 hr h2]; exact q
  · obtain ⟨p, vs, ey, hd, hr⟩ := rb.tuple gh
    refine ⟨p, vs, ey, .inr hd, flat_V ra' h1, flat_Vs hr h2, ?_⟩
    rw [inV_of ra' h1 hr h2]; exact q
theorem opc_in (L : Low X) (hu : X.A.units + 65 < cLine) : OpC X .In dIn := by
  intro pins s σ H G x y v u a b c Q I rx ry gh ra rb hg q
  unfold dIn at hg
  split at hg
  · rename_i z w
    split at hg
    · rename_i ch he
      cases hg
      refine op_in_sign pins s σ H x y v u Q I rx ry ⟨ch, w, ?_, rb.str, q⟩
      rw [ra.str]
      congr 1
      cases z with
      | mk cps => simp only at he; simp [← he]
    · cases hg
  · split at hg
    · rename_i ds _ hs
      cases hg
      exact op_in_seq pins s σ H x y v u Q I rx ry (rIn_of gh ra rb (.inl rfl) hs.1 hs.2 q)
    split at hg
    · rename_i ds _ _ hs
      cases hg
      obtain ⟨as, r1, _⟩ := Rp.reads L I a x v (ra.rp gh) rx
      obtain ⟨bs, r2, _⟩ := Rp.reads L I _ y u (rb.rp gh) ry
      exact SeqAt.in_list_reads r2 r1 (lay_of (.inl hs.2)) (SeqAt.canLay_of_shaped hs.1) (sh_units (e := a) hs.1 hu _) ⟨.bl _, H, I, rfl, q⟩
    · cases hg
  · split at hg
    · rename_i ds _ hs
      cases hg
      exact op_in_seq pins s σ H x y v u Q I rx ry (rIn_of gh ra rb (.inr rfl) hs.1 hs.2 q)
    split at hg
    · rename_i ds _ _ hs
      cases hg
      obtain ⟨as, r1, _⟩ := Rp.reads L I a x v (ra.rp gh) rx
      obtain ⟨bs, r2, _⟩ := Rp.reads L I _ y u (rb.rp gh) ry
      exact SeqAt.in_tuple_reads r2 r1 (lay_of (.inr hs.2)) (SeqAt.canLay_of_shaped hs.1) (sh_units (e := a) hs.1 hu _) ⟨.bl _, H, I, rfl, q⟩
    · cases hg
  · split at hg
    · rename_i k hk
      cases hg
      obtain ⟨p, kvs, ey, hd, hr⟩ := rb.dict gh
      have ex := key_of ra hk
      subst ex ey
      cases ry
      refine d_in (o := valV kvs k) (by omega) I (.inl ⟨kvs, k, hd, rfl, rfl⟩) rx fun s' I' => ⟨.bl _, H, I', rfl, ?_⟩
      rcases dGet_of k hr with ⟨e1, e2⟩ | ⟨v', d', e1, e2, _⟩
      · rw [e1]; rw [e2] at q; exact q
      · rw [e1]; rw [e2] at q; exact q
    · cases hg
  · cases hg
theorem opc_notin (L : Low X) (hu : X.A.units + 65 < cLine) : OpC X .NotIn (fun a b => (dIn a b).map (!·)) := by
  refine OpC.neg (op := .In) fun pins s σ H G x y v u a b c Q I rx ry gh ra rb hg q => ?_
  unfold dIn at hg
  split at hg
  · rename_i z w
    split at hg
    · rename_i ch he
      cases hg
      refine op_notIn_sign pins s σ H x y v u Q I rx ry ⟨ch, w, ?_, rb.str, q⟩
      rw [ra.str]
      congr 1
      cases z with
      | mk cps => simp only at he; simp [← he]
    · cases hg
  · split at hg
    · rename_i ds _ hs
      cases hg
      exact op_notIn_seq pins s σ H x y v u Q I rx ry (rIn_of gh ra rb (.inl rfl) hs.1 hs.2 q)
    split at hg
    · rename_i ds _ _ hs
      cases hg
      obtain ⟨as, r1, _⟩ := Rp.reads L I a x v (ra.rp gh) rx
      obtain ⟨bs, r2, _⟩ := Rp.reads L I _ y u (rb.rp gh) ry
      exact SeqAt.notIn_list_reads r2 r1 (lay_of (.inl hs.2)) (SeqAt.canLay_of_shaped hs.1) (sh_units (e := a) hs.1 hu _) ⟨.bl _, H, I, rfl, q⟩
    · cases hg
  · split at hg
    · rename_i ds _ hs
      cases hg
      exact op_notIn_seq pins s σ H x y v u Q I rx ry (rIn_of gh ra rb (.inr rfl) hs.1 hs.2 q)
    split at hg
    · rename_i ds _ _ hs
      cases hg
      obtain ⟨as, r1, _⟩ := Rp.reads L I a x v (ra.rp gh) rx
      obtain ⟨bs, r2, _⟩ := Rp.reads L I _ y u (rb.rp gh) ry
      exact SeqAt.notIn_tuple_reads r2 r1 (lay_of (.inr hs.2)) (SeqAt.canLay_of_shaped hs.1) (sh_units (e := a) hs.1 hu _) ⟨.bl _, H, I, rfl, q⟩
    · cases hg
  · split at hg
    · rename_i k hk
      cases hg
      obtain ⟨p, kvs, ey, hd, hr⟩ := rb.dict gh
      have ex := key_of ra hk
      subst ex ey
      cases ry
      refine d_notIn (o := valV kvs k) (by omega) I (.inl ⟨kvs, k, hd, rfl, rfl⟩) rx fun s' I' => ⟨.bl _, H, I', rfl, ?_⟩
      rcases dGet_of k hr with ⟨e1, e2⟩ | ⟨v', d', e1, e2, _⟩
      · rw [e1]; rw [e2] at q; exact q
      · rw [e1]; rw [e2] at q; exact q
    · cases hg
  · cases hg
theorem ints_of {K : PySem.W.Frag} {G : Hp} : ∀ {vs : List V} {ds : List D} {ns : List Int}, RpAll K G vs ds → asInts ds = some ns → vs = ns.map V.int
  | _, [], ns, h, e => by cases h; cases e; rfl
  | _, .int i :: ds, ns, h, e => by
    cases h with
    | cons h1 h2 =>
      unfold asInts at e
      cases e2 : asInts ds with
      | none => rw [e2] at e; cases e
      | some ms =>
        rw [e2] at e
        cases e
        cases h1
        rw [ints_of h2 e2]
        rfl
  | _, .none :: ds, ns, h, e => by cases e
  | _, .bool _ :: ds, ns, h, e => by cases e
  | _, .str _ :: ds, ns, h, e => by cases e
  | _, .list _ :: ds, ns, h, e => by cases e
  | _, .tuple _ :: ds, ns, h, e => by cases e
  | _, .dict _ :: ds, ns, h, e => by cases e
theorem opc_cmp (L : Low X) (hu : X.A.units + 65 < cLine) (op : CmpOp) : OpC X op (dCmp op) := by
  intro pins s σ H G x y v u a b c Q I rx ry gh ra rb hg q
  unfold dCmp at hg
  split at hg
  · exact opc_eq L (by omega) pins s σ H G x y v u _ _ c Q I rx ry gh ra rb hg q
  · exact opc_ne L (by omega) pins s σ H G x y v u _ _ c Q I rx ry gh ra rb hg q
  · cases hg
    exact op_lt pins s σ H x y v u Q I rx ry ⟨_, _, ra.int, rb.int, q⟩
  · cases hg
    exact op_lt_str pins s σ H x y v u Q I rx ry ⟨_, _, ra.str, rb.str, q⟩
  · split at hg
    · rename_i ns ms e1 e2
      cases hg
      obtain ⟨p1, v1, ex, s1, r1⟩ := ra.tuple gh
      obtain ⟨p2, v2, ey, s2, r2⟩ := rb.tuple gh
      rw [ints_of r1 e1] at s1
      rw [ints_of r2 e2] at s2
      exact op_ltT (by omega) pins s σ H x y v u Q I rx ry ⟨p1, p2, _, _, ex, ey, s1, s2, q⟩
    · cases hg
  · cases hg
    exact op_le pins s σ H x y v u Q I rx ry ⟨_, _, ra.int, rb.int, q⟩
  · cases hg
    exact op_gt pins s σ H x y v u Q I rx ry ⟨_, _, ra.int, rb.int, q⟩
  · cases hg
    exact op_ge pins s σ H x y v u Q I rx ry ⟨_, _, ra.int, rb.int, q⟩
  · exact opc_in L hu pins s σ H G x y v u _ _ c Q I rx ry gh ra rb hg q
  · exact opc_notin L hu pins s σ H G x y v u _ _ c Q I rx ry gh ra rb hg q
  · exact opc_is pins s σ H G x y v u _ _ c Q I rx ry gh ra rb hg q
  · exact opc_isnot pins s σ H G x y v u _ _ c Q I rx ry gh ra rb hg q
  · cases hg
theorem opr_cmp (L : Low X) (hu : X.A.units + 65 < cLine) (op : CmpOp) : OpR X (compareOp op) (rD X.K (dCmpR op)) := by
  intro pins s σ H x y v u Q I rx ry ⟨G, a, b, c, fr, gh, ra, rb, hg, q⟩
  unfold dCmpR at hg
  split at hg
  · rename_i k hk
    cases hg
    exact opc_cmp L hu op pins s σ H G x y v u a b k Q I rx ry gh ra rb hk (res_sc gh q (.bl _))
  · cases hg
/-! ### truth, negation -/
def dTru : D → Option Bool
  | .none => some false
  | .bool b => some b
  | .int i => some (decide (i ≠ 0))
  | .list ds => some (decide (ds ≠ []))
  | .tuple ds => some (decide (ds ≠ []))
  | _ => none
/-! ### repr -/
def okShow (d : D) : Bool := d.showable && decide (d.shown.length ≤ sizeLine) && decide (d.depth ≤ 64)
def dRepr (d : D) : Option (D × Bool) := if okShow d = true then some (.str d.shown, false) else none
end
end HC
set_option Elab.async false
set_option linter.all false
set_option maxRecDepth 100000
set_option autoImplicit false
/-! HC, part D: built-in functions by data. -/
namespace HC
open PySem PySem.Spec PyProof.Rows L2
/-- readable values, one for each datum -/
inductive RBAll (K : PySem.W.Frag) (G H : Hp) : List V → List D → Prop
  | nil : RBAll K G H [] []
  | cons {v : V} {vs : List V} {d : D} {ds : List D} : RB K G H v d → RBAll K G H vs ds → RBAll K G H (v :: vs) (d :: ds)
theorem RBAll.mono {K : PySem.W.Frag} {G G' H H' : Hp} (e : Same G G') (e' : Same H H') : ∀ {vs : List V} {ds : List D}, RBAll K G H vs ds → RBAll K G' H' vs ds
  | _, _, .nil => .nil
  | _, _, .cons h t => .cons (h.mono e e') (RBAll.mono e e' t)
theorem RBAll.one {K : PySem.W.Frag} {G H : Hp} {vs : List V} {d : D} (h : RBAll K G H vs [d]) : ∃ v, vs = [v] ∧ RB K G H v d := by
  cases h with
  | cons h1 h2 => cases h2; exact ⟨_, rfl, h1⟩
theorem RBAll.two {K : PySem.W.Frag} {G H : Hp} {vs : List V} {d e : D} (h : RBAll K G H vs [d, e]) : ∃ v u, vs = [v, u] ∧ RB K G H v d ∧ RB K G H u e := by
  cases h with
  | cons h1 h2 =>
    obtain ⟨u, rfl, h3⟩ := h2.one
    exact ⟨_, _, rfl, h1, h3⟩
def rC (K : PySem.W.Frag) (g : List D → Option (D × Bool)) : List V → Hp → VK → Prop := fun xs H Q => ∃ G as c fr, Same G H ∧ RBAll K G H xs as ∧ g as = some (c, fr) ∧
  ∀ z H' G', Step H G H' G' → ResV K H G' H' fr z c → Q z H'
def asBools : List D → Option (List Bool)
  | [] => some []
  | .bool b :: r => (asBools r).map (b :: ·)
  | _ => none
theorem bools_of {K : PySem.W.Frag} {G : Hp} : ∀ {vs : List V} {ds : List D} {ns : List Bool}, RpAll K G vs ds → asBools ds = some ns → vs = ns.map V.bl
  | _, [], ns, h, e => by cases h; cases e; rfl
  | _, .bool i :: ds, ns, h, e => by
    cases h with
    | cons h1 h2 =>
      unfold asBools at e
      cases e2 : asBools ds with
      | none => rw [e2] at e; cases e
      | some ms =>
        rw [e2] at e
        cases e
        cases h1
        rw [bools_of h2 e2]
        rfl
  | _, .none :: ds, ns, h, e => by cases e
  | _, .int _ :: ds, ns, h, e => by cases e
  | _, .str _ :: ds, ns, h, e => by cases e
  | _, .list _ :: ds, ns, h, e => by cases e
  | _, .tuple _ :: ds, ns, h, e => by cases e
  | _, .dict _ :: ds, ns, h, e => by cases e
inductive Bi where
  | len | all | any | max | int | list | tuple | repr
  deriving DecidableEq
def biVal : Bi → Value
  | .len => .builtin "len"
  | .all => .builtin "all"
  | .any => .builtin "any"
  | .max => .builtin "max"
  | .int => .type "int"
  | .list => .type "list"
  | .tuple => .type "tuple"
  | .repr => .builtin "repr"
def dBi : Bi → List D → Option (D × Bool)
  | .len, [.list ds] => some (.int ds.length, false)
  | .len, [.tuple ds] => some (.int ds.length, false)
  | .len, [.str x] => if x.length ≤ sizeLine then some (.int x.length, false) else none
  | .len, [.dict ds] => some (.int ds.length, false)
  | .all, [.list ds] => (match asBools ds with
    | some bs => some (.bool (bs.all id), false)
    | none => none)
  | .any, [.list ds] => (match asBools ds with
    | some bs => some (.bool (bs.any id), false)
    | none => none)
  | .max, [.int i, .int j] => some (.int (if j > i then j else i), false)
  | .int, [.int i] => some (.int i, false)
  | .int, [.bool b] => some (.int (if b then 1 else 0), false)
  | .list, [.list ds] => some (.list ds, true)
  | .list, [.tuple ds] => some (.list ds, true)
  | .tuple, [.list ds] => some (.tuple ds, false)
  | .tuple, [.tuple ds] => some (.tuple ds, false)
  | .repr, [d] => dRepr d
  | _, _ => none
section
variable {X : Cx}
theorem RB.tup_rp {K : PySem.W.Frag} {G H : Hp} {v : V} {ds : List D} (h : RB K G H v (.tuple ds)) : Rp K G v (.tuple ds) := by
  rcases h with h | ⟨_, o, _, _, ho⟩
  · exact h
  · rcases ho with ⟨_, _, _, z, _⟩ | ⟨_, _, _, z, _⟩ <;> cases z
theorem RpKv.length {K : PySem.W.Frag} {H : Hp} : ∀ {vs : List (Key × V)} {ds : List (D × D)}, RpKv K H vs ds → vs.length = ds.length
  | _, [], h => by cases h; rfl
  | _, d :: ds, h => by
    cases h with
    | cons _ h2 => exact congrArg Nat.succ h2.length
theorem callr_repr (L : Low X) (hG : X.A.guards = some []) (hu : X.A.units + 70 < cLine) : CallR X (.builtin "repr") (rC X.K (dBi .repr)) := by
  intro pins s σ H xs us Q I r ⟨G, as, c, fr, gh, ra, hg, q⟩
  cases as with
  | nil => cases hg
  | cons a as =>
    cases as with
    | cons _ _ => cases hg
    | nil =>
      have hg' : dRepr a = some (c, fr) := hg
      unfold dRepr at hg'
      split at hg'
      · rename_i ho
        cases hg'
        obtain ⟨x, rfl, rb⟩ := ra.one
        cases r with
        | cons r1 r2 =>
          cases r2
          rename_i u
          unfold okShow at ho
          simp only [Bool.and_eq_true, decide_eq_true_eq] at ho
          obtain ⟨⟨h1, h2⟩, h3⟩ := ho
          have rp := rb.rp gh
          have q' := res_sc gh q (.str _)
          cases a with
          | none =>
            cases rp; cases r1
            simp only [PyData.shown] at q'
            exact PySem.P.repr_of_none ⟨.str _, H, I.tok _, ⟨_, rfl⟩, q'⟩
          | bool b =>
            cases rp; cases r1
            simp only [PyData.shown] at q'
            exact PySem.P.repr_of_bool ⟨.str _, H, I.tok _, ⟨_, rfl⟩, q'⟩
          | int i =>
            cases rp; obtain ⟨t, rfl⟩ := r1
            simp only [PyData.shown] at q'
            exact PySem.P.repr_of_int (by simpa [PyData.showable] using h1) ⟨.str _, H, I.tok _, ⟨_, rfl⟩, q'⟩
          | str z =>
            cases rp; obtain ⟨t, rfl⟩ := r1
            simp only [PyData.shown] at q' h2
            exact PySem.P.repr_of_str ⟨.str _, H, I.tok _, ⟨_, rfl⟩, q'⟩ h2
          | list ds =>
            obtain ⟨as, rr, hn⟩ := Rp.reads L I _ _ _ rp r1
            cases rp
            cases r1
            exact repr_of_reads' rr h1 (fun _ => hn) hG (by omega) (fun _ _ e => e) (fun h' u tk hk => ⟨.str _, H, I.kept hk, ⟨_, rfl⟩, q'⟩) h2
          | tuple ds =>
            obtain ⟨as, rr, hn⟩ := Rp.reads L I _ _ _ rp r1
            cases rp
            cases r1
            exact repr_of_reads' rr h1 (fun _ => hn) hG (by omega) (fun _ _ e => e) (fun h' u tk hk => ⟨.str _, H, I.kept hk, ⟨_, rfl⟩, q'⟩) h2
          | dict ds =>
            obtain ⟨as, rr, hn⟩ := Rp.reads L I _ _ _ rp r1
            cases rp
            cases r1
            exact repr_of_reads' rr h1 (fun _ => hn) hG (by omega) (fun _ _ e => e) (fun h' u tk hk => ⟨.str _, H, I.kept hk, ⟨_, rfl⟩, q'⟩) h2
      · cases hg'
theorem callr_bi (L : Low X) (hc : X.calm = true) (hG : X.A.guards = some []) (hu : X.A.units + 70 < cLine) (b : Bi) : CallR X (biVal b) (rC X.K (dBi b)) := by
  intro pins s σ H xs us Q I r ⟨G, as, c, fr, gh, ra, hg, q⟩
  have hg0 := hg
  unfold dBi at hg
  split at hg
  · cases hg
    obtain ⟨x, ex, rb⟩ := ra.one
    obtain ⟨p, vs, e1, hs, hr⟩ := rb.list gh
    subst ex e1
    exact call_len_seq pins s σ H _ us Q I r ⟨p, vs, rfl, .inl (.inl hs), by rw [hr.length]; exact res_sc gh q (.int _)⟩
  · cases hg
    obtain ⟨x, ex, rb⟩ := ra.one
    obtain ⟨p, vs, e1, hs, hr⟩ := rb.tuple gh
    subst ex e1
    exact call_len_seq pins s σ H _ us Q I r ⟨p, vs, rfl, .inr hs, by rw [hr.length]; exact res_sc gh q (.int _)⟩
  · split at hg
    · rename_i hz
      cases hg
      obtain ⟨x, ex, rb⟩ := ra.one
      rw [rb.str] at ex
      exact call_len_str pins s σ H _ us Q I r ⟨_, ex, hz, res_sc gh q (.int _)⟩
    · cases hg
  · cases hg
    obtain ⟨x, ex, rb⟩ := ra.one
    obtain ⟨p, vs, e1, hs, hr⟩ := rb.dict gh
    subst ex e1
    cases r with
    | cons r1 r2 =>
      cases r2
      cases r1
      exact d_len I hs fun t s' I' => ⟨.int vs.length, H, I', ⟨t, rfl⟩, by rw [hr.length]; exact res_sc gh q (.int _)⟩
  · split at hg
    · rename_i bs hb
      cases hg
      obtain ⟨x, ex, rb⟩ := ra.one
      obtain ⟨p, vs, e1, hs, hr⟩ := rb.list gh
      rw [bools_of hr hb] at hs
      subst ex e1
      exact cr_all hc pins s σ H _ us Q I r ⟨p, bs, rfl, .inl hs, res_sc gh q (.bl _)⟩
    · cases hg
  · split at hg
    · rename_i bs hb
      cases hg
      obtain ⟨x, ex, rb⟩ := ra.one
      obtain ⟨p, vs, e1, hs, hr⟩ := rb.list gh
      rw [bools_of hr hb] at hs
      subst ex e1
      exact cr_any hc pins s σ H _ us Q I r ⟨p, bs, rfl, .inl hs, res_sc gh q (.bl _)⟩
    · cases hg
  · cases hg
    obtain ⟨x, y, ex, rx, ry⟩ := ra.two
    rw [rx.int, ry.int] at ex
    exact call_max2 hc pins s σ H _ us Q I r ⟨_, _, ex, res_sc gh q (.int _)⟩
  · cases hg
    obtain ⟨x, ex, rb⟩ := ra.one
    rw [rb.int] at ex
    exact call_int1 pins s σ H _ us Q I r (.inl ⟨_, ex, res_sc gh q (.int _)⟩)
  · cases hg
    obtain ⟨x, ex, rb⟩ := ra.one
    rw [rb.bool] at ex
    exact call_int1 pins s σ H _ us Q I r (.inr ⟨_, ex, res_sc gh q (.int _)⟩)
  · cases hg
    obtain ⟨x, ex, rb⟩ := ra.one
    obtain ⟨p, vs, e1, hs, hr⟩ := rb.list gh
    subst ex e1
    exact call_list_of pins s σ H _ us Q I r ⟨p, vs, rfl, .inl (.inl hs), fun l hl => res_lst gh q hr hl⟩
  · cases hg
    obtain ⟨x, ex, rb⟩ := ra.one
    obtain ⟨p, vs, e1, hs, hr⟩ := rb.tuple gh
    subst ex e1
    exact call_list_of pins s σ H _ us Q I r ⟨p, vs, rfl, .inr hs, fun l hl => res_lst gh q hr hl⟩
  · cases hg
    obtain ⟨x, ex, rb⟩ := ra.one
    obtain ⟨p, vs, e1, hs, hr⟩ := rb.list gh
    subst ex e1
    exact call_tuple_of pins s σ H _ us Q I r ⟨p, vs, rfl, .inl ⟨.inl hs, fun l hl => res_tup gh q hr hl⟩⟩
  · cases hg
    obtain ⟨x, ex, rb⟩ := ra.one
    have rb' := rb.tup_rp
    obtain ⟨p, vs, e1, hs, hr⟩ := rb.tuple gh
    subst ex e1
    exact call_tuple_of pins s σ H _ us Q I r ⟨p, vs, rfl, .inr ⟨hs, res_sc gh q rb'⟩⟩
  · exact callr_repr L hG hu pins s σ H xs us Q I r ⟨G, _, c, fr, gh, ra, hg0, q⟩
  · cases hg
/-! ### isinstance -/
inductive Ty where
  | int | bool | str | list | tuple | dict
  deriving DecidableEq
def tyName : Ty → String
  | .int => "int" | .bool => "bool" | .str => "str" | .list => "list" | .tuple => "tuple" | .dict => "dict"
def dIsa : Ty → D → Bool
  | .int, .int _ => true
  | .int, .bool _ => true
  | .bool, .bool _ => true
  | .str, .str _ => true
  | .list, .list _ => true
  | .tuple, .tuple _ => true
  | .dict, .dict _ => true
  | _, _ => false
def tyOfD : D → String
  | .none => "NoneType" | .bool _ => "bool" | .int _ => "int" | .str _ => "str" | .list _ => "list" | .tuple _ => "tuple" | .dict _ => "dict"
theorem tyX_of {K : PySem.W.Frag} {H : Hp} {v : V} : ∀ {d : D}, Rp K H v d → TyX K H v (.type (tyOfD d))
  | .none, h => by cases h; exact .base .non
  | .bool _, h => by cases h; exact .base (.bl _)
  | .int _, h => by cases h; exact .base (.int _)
  | .str _, h => by cases h; exact .base (.str _)
  | .list _, h => by
    cases h with
    | lst hs _ =>
      rcases hs with hs | ⟨o, hs⟩
      · exact .base (.lst hs)
      · exact .base (.frz hs)
  | .tuple _, h => by
    cases h with
    | tup hs _ =>
      rcases hs with (hs | ⟨o, hs⟩) | ⟨o, its, n, hk, hc, _⟩
      · exact .base (.tup hs)
      · exact .fTuple hs
      · exact .kTuple hk hc
  | .dict _, h => by
    cases h with
    | dct hs _ =>
      rcases hs with hs | ⟨o, hs⟩
      · exact .base (.dK hs)
      · exact .fDict hs
def isaS : Ty → String → Bool
  | .int, s => s == "int" || s == "bool"
  | t, s => s == tyName t
theorem kit_tab : ∀ t ∈ [Ty.int, .bool, .str, .list, .tuple, .dict], ∀ s ∈ ["NoneType", "bool", "int", "str", "list", "tuple", "dict"], kitB s (tyName t) = some (isaS t s) := by decide +kernel
theorem kit_isa {K : PySem.W.Frag} (t : Ty) (d : D) : PySem.W.kitOne K (.type (tyOfD d)) (.type (tyName t)) = some (dIsa t d) := by
  refine kit_ty ?_
  rw [kit_tab t (by cases t <;> simp) (tyOfD d) (by cases d <;> simp [tyOfD])]
  congr 1
  cases t <;> cases d <;> rfl
end
end HC
set_option Elab.async false
set_option linter.all false
set_option maxRecDepth 100000
set_option autoImplicit false
/-! HC, part E: expressions, tests, argument lists. -/
namespace HC
open PySem PySem.Spec PyProof.Rows L2
/-! ### what the syntax has to be -/
def plainE : Expr → Bool
  | .Starred _ _ => false
  | .Set _ _ _ => false
  | .Slice _ _ _ _ => false
  | _ => true
theorem plain_star {e : Expr} (h : plainE e = true) (es : List Expr) (env : PySem.Env) : starEach (e :: es) env = (false, eval e env) :: starEach es env := by
  cases e <;> first | rfl | cases h
theorem plain_mark {e : Expr} (h : plainE e = true) (op : CmpOp) : behindInMarks op e = false := by
  cases e <;> first | rfl | cases h
theorem plain_ix {e : Expr} (h : plainE e = true) : PlainIx e := by
  intro o i
  cases e <;> first | rfl | cases h
theorem plain_fold {e : Expr} (h : plainE e = true) (env : PySem.Env) (x : Value) : foldedSetIterable e env x = pure x := by
  cases e <;> first | rfl | cases h
def noSuper : Expr → Bool
  | .Call (.Name _ _) [] [] _ => false
  | _ => true
theorem noSuper_base {o : Expr} (h : noSuper o = true) (name : Str) (env : PySem.Env) : attributeBase o name env (eval o env) = eval o env := by
  unfold noSuper at h
  split at h
  · cases h
  · rename_i hn
    unfold attributeBase
    split
    · rename_i id p pos
      exact absurd rfl (hn id p pos)
    · rfl
/-! ### constants and names -/
def mConst (d : D) : MV := fun env => some (d, .sh, env)
def mVar (i : Nat) : MV := fun env => match env[i]? with
  | some (some ⟨d, own⟩) => some (d, if own = true then .bw i else .sh, env)
  | _ => none
section
variable {X : Cx} {C : Cn}
theorem tE_const {d : D} {v : V} (hr : ∀ G, Rp C.K G v d) {σ : St} {H : Hp} {Q : VK} (h : tE C (mConst d) σ H Q) : Q v H := by
  obtain ⟨env, G, d', k, env', hs, hm, hq⟩ := h
  cases hm
  exact hq v H G (Same.refl _) (Same.refl _) hs (hr G)
theorem peConst {c : Const} {j : Nat} {pos : Pos} {d : D} (h : match c with | .int i => d = .int i | .bool b => d = .bool b | .none => d = .none | .str x => d = .str x | _ => False) : PE X (.Constant c j pos) (tE C (mConst d)) := by
  cases c with
  | int i => cases h; exact peImp pe_int fun σ H Q q => tE_const (fun _ => .int i) q
  | bool i => cases h; exact peImp pe_bl fun σ H Q q => tE_const (fun _ => .bl i) q
  | none => cases h; exact peImp pe_non fun σ H Q q => tE_const (fun _ => .non) q
  | str i => cases h; exact peImp pe_str fun σ H Q q => tE_const (fun _ => .str i) q
  | _ => cases h
theorem peVar {i : Nat} {x : Str} {pos : Pos} (hN : X.N[i]? = some x) (hv : Vis X.env.scope x) (hd : (x == ("__debug__" : Str)) = false) (hcd : (x == ("__classdict__" : Str)) = false) : PE X (.Name x pos) (tE C (mVar i)) := by
  refine peImp (pe_var hN hv hd hcd) fun σ H Q h => ?_
  obtain ⟨env, G, d, k, env', hs, hm, hq⟩ := h
  unfold mVar at hm
  split at hm
  · rename_i d' own e
    cases hm
    cases own with
    | false =>
      obtain ⟨v, h1, h2⟩ := hs.sl i _ e
      exact ⟨v, h1, hq v H G (Same.refl _) (Same.refl _) hs h2⟩
    | true =>
      obtain ⟨p, o, h1, h2⟩ := hs.ow i _ e
      exact ⟨_, h1, hq _ H G (Same.refl _) (Same.refl _) hs ⟨e, h1⟩⟩
  · cases hm
theorem peGlob {x : Str} {u : Value} {v : V} {d : D} {pos : Pos} (hg : Gl X x) (hm : X.mg x = some u) (r : RelV v u) (hr : ∀ G, Rp C.K G v d) (hd : (x == ("__debug__" : Str)) = false) : PE X (.Name x pos) (tE C (mConst d)) :=
  peImp (pe_glob hg hm r hd) fun σ H Q q => tE_const hr q
/-! ### operators -/
theorem peBin {a b : Expr} {ma mb : MV} {op : Operator} {pos : Pos} (e : C.K = X.K) (ha : PE X a (tE C ma)) (hb : PE X b (tE C mb)) : PE X (.BinOp a op b pos) (tE C (ev2 ma mb (dBin op))) :=
  peImp (pe_op (opr_bin op) ha hb) fun σ H Q q => tE.two (by rw [e]; exact d2_rD _ _) q
theorem peCmp {a b : Expr} {ma mb : MV} {op : CmpOp} {pos : Pos} (e : C.K = X.K) (L : Low X) (hu : X.A.units + 65 < cLine) (ha : PE X a (tE C ma)) (hb : PE X b (tE C mb)) (hp : plainE b = true) : PE X (.Compare a [op] [b] pos) (tE C (ev2 ma mb (dCmpR op))) :=
  peImp (pe_cmpR (opr_cmp L hu op) ha hb (plain_mark hp op)) fun σ H Q q => tE.two (by rw [e]; exact d2_rD _ _) q
/-- - a -/
def dNeg : D → Option (D × Bool)
  | .int i => some (.int (-i), false)
  | _ => none
theorem peNeg {a : Expr} {ma : MV} {pos : Pos} (ha : PE X a (tE C ma)) : PE X (.UnaryOp .USub a pos) (tE C (ev1 ma dNeg)) := by
  refine peImp (pe_un un_neg ha) fun σ H Q q => tE.one (r := fun x H Q => rU (fun i => .int (-i)) x H Q) (fun x H G Q a c fr gh rb hg hq => ?_) q
  unfold dNeg at hg
  split at hg
  · cases hg
    exact ⟨_, rb.int, res_sc gh hq (.int _)⟩
  · cases hg
/-! ### truth -/
theorem truV_of {K : PySem.W.Frag} {G H : Hp} {v : V} {d : D} {b : Bool} (gh : Same G H) (rb : RB K G H v d) (h : dTru d = some b) : TruV K v H b := by
  unfold dTru at h
  split at h <;> cases h
  · rw [rb.none]; exact rfl
  · rw [rb.bool]; exact rfl
  · rw [rb.int]
    show decide _ = _
    rw [Bool.eq_iff_iff]
    simp
  · obtain ⟨p, vs, rfl, hs, hr⟩ := rb.list gh
    refine .inl ⟨vs, .inl hs, ?_⟩
    have := hr.length
    cases vs with
    | nil => cases ‹List D› with
      | nil => rfl
      | cons _ _ => simp at this
    | cons _ _ => cases ‹List D› with
      | nil => simp at this
      | cons _ _ => simp
  · obtain ⟨p, vs, rfl, hs, hr⟩ := rb.tuple gh
    refine .inr (.inl ⟨vs, hs, ?_⟩)
    have := hr.length
    cases vs with
    | nil => cases ‹List D› with
      | nil => rfl
      | cons _ _ => simp at this
    | cons _ _ => cases ‹List D› with
      | nil => simp at this
      | cons _ _ => simp
def mTru (m : MV) : MT := fun env => match m env with
  | some (d, _, e) => (match dTru d with
    | some b => some (b, e)
    | none => none)
  | none => none
theorem tT_tru {m : MV} {σ : St} {H : Hp} {Q : Bool → Hp → Prop} (h : tT C (mTru m) σ H Q) : tE C m σ H fun x H' => ∃ k, TruV C.K x H' k ∧ Q k H' := by
  obtain ⟨env, G, b, env', hs, hm, hq⟩ := h
  unfold mTru at hm
  cases e1 : m env with
  | none => rw [e1] at hm; cases hm
  | some q =>
    obtain ⟨d, k, e⟩ := q
    rw [e1] at hm
    dsimp only at hm
    cases e2 : dTru d with
    | none => rw [e2] at hm; cases hm
    | some b' =>
      rw [e2] at hm
      cases hm
      refine ⟨env, G, d, k, env', hs, e1, fun v H' G' hh hg s1 hv => ?_⟩
      obtain ⟨G2, g2, s2, rb⟩ := s1.useR hv
      exact ⟨b, truV_of s2.gh rb e2, hq H' G2 hh (hg.trans g2) s2⟩
/-- which expressions a test reads as values -/
def valE : Expr → Bool
  | .UnaryOp .Not _ _ => false
  | .BoolOp _ _ _ => false
  | .IfExp _ _ _ _ => false
  | .Compare _ _ _ _ => false
  | _ => true
theorem ptVal {a : Expr} {m : MV} (e : C.K = X.K) (ha : PE X a (tE C m)) (hv : valE a = true) : PT X a (tT C (mTru m)) := by
  refine ptImp (pt_truth ha fun whole => ?_) fun σ H Q q => by rw [← e]; exact tT_tru q
  cases a with
  | UnaryOp op _ _ => cases op <;> first | rfl | cases hv
  | _ => first | rfl | cases hv
/-! ### and, or, not -/
def mAnd : List MT → MT
  | [] => fun env => some (true, env)
  | m :: ms => fun env => match m env with
    | some (true, e) => mAnd ms e
    | r => r
def mOr : List MT → MT
  | [] => fun env => some (false, env)
  | m :: ms => fun env => match m env with
    | some (false, e) => mOr ms e
    | r => r
def mNotT (m : MT) : MT := fun env => match m env with
  | some (b, e) => some (!b, e)
  | none => none
inductive PTall (X : Cx) (C : Cn) : List Expr → List MT → Prop
  | nil : PTall X C [] []
  | cons {e : Expr} {es : List Expr} {m : MT} {ms : List MT} : PT X e (tT C m) → PTall X C es ms → PTall X C (e :: es) (m :: ms)
theorem pwImp {e : Expr} {t t' : TT} (h : PW X e t) (i : ∀ σ H Q, t' σ H Q → t σ H Q) : PW X e t' := ⟨fun wh pins s σ H Q I q => h.run wh pins s σ H Q I (i σ H Q q)⟩
theorem tT_and {m : MT} {ms : List MT} {σ : St} {H : Hp} {Q : Bool → Hp → Prop} (h : tT C (mAnd (m :: ms)) σ H Q) : tAnd (tT C m) (tT C (mAnd ms)) σ H Q := by
  obtain ⟨env, G, b, env', hs, hm, hq⟩ := h
  simp only [mAnd] at hm
  cases e1 : m env with
  | none => rw [e1] at hm; cases hm
  | some q =>
    obtain ⟨c, e⟩ := q
    rw [e1] at hm
    refine ⟨env, G, c, e, hs, e1, fun H' G' hh hg s1 => ?_⟩
    cases c with
    | true =>
      rw [if_pos rfl]
      exact ⟨e, G', b, env', s1, hm, fun H2 G2 h2 g2 s2 => hq H2 G2 (hh.trans h2) (hg.trans g2) s2⟩
    | false =>
      cases hm
      rw [if_neg (by decide)]
      exact hq H' G' hh hg s1
theorem tT_or {m : MT} {ms : List MT} {σ : St} {H : Hp} {Q : Bool → Hp → Prop} (h : tT C (mOr (m :: ms)) σ H Q) : tOr (tT C m) (tT C (mOr ms)) σ H Q := by
  obtain ⟨env, G, b, env', hs, hm, hq⟩ := h
  simp only [mOr] at hm
  cases e1 : m env with
  | none => rw [e1] at hm; cases hm
  | some q =>
    obtain ⟨c, e⟩ := q
    rw [e1] at hm
    refine ⟨env, G, c, e, hs, e1, fun H' G' hh hg s1 => ?_⟩
    cases c with
    | false =>
      rw [if_neg (by decide)]
      exact ⟨e, G', b, env', s1, hm, fun H2 G2 h2 g2 s2 => hq H2 G2 (hh.trans h2) (hg.trans g2) s2⟩
    | true =>
      cases hm
      rw [if_pos rfl]
      exact hq H' G' hh hg s1
theorem and_one (m : MT) : mAnd [m] = m := by
  funext env
  simp only [mAnd]
  split
  · rename_i e h; exact h.symm
  · rfl
theorem or_one (m : MT) : mOr [m] = m := by
  funext env
  simp only [mOr]
  split
  · rename_i e h; exact h.symm
  · rfl
theorem pwAnd {pos : Pos} : ∀ {es : List Expr} {ms : List MT}, es ≠ [] → PTall X C es ms → PW X (.BoolOp .And es pos) (tT C (mAnd ms))
  | [], _, h, _ => absurd rfl h
  | [e], _, _, .cons h .nil => by rw [and_one]; exact pw_and1 h
  | e :: b :: r, _, _, .cons h t => pwImp (pw_and h (pwAnd (by simp) t)) fun σ H Q q => tT_and q
theorem pwOr {pos : Pos} : ∀ {es : List Expr} {ms : List MT}, es ≠ [] → PTall X C es ms → PW X (.BoolOp .Or es pos) (tT C (mOr ms))
  | [], _, h, _ => absurd rfl h
  | [e], _, _, .cons h .nil => by rw [or_one]; exact pw_or1 h
  | e :: b :: r, _, _, .cons h t => pwImp (pw_or h (pwOr (by simp) t)) fun σ H Q q => tT_or q
theorem ptNot {a : Expr} {m : MT} {pos : Pos} (h : PT X a (tT C m)) : PT X (.UnaryOp .Not a pos) (tT C (mNotT m)) := by
  refine ptImp (pt_not h) fun σ H Q q => ?_
  obtain ⟨env, G, b, env', hs, hm, hq⟩ := q
  unfold mNotT at hm
  cases e1 : m env with
  | none => rw [e1] at hm; cases hm
  | some q =>
    obtain ⟨c, e⟩ := q
    rw [e1] at hm
    cases hm
    exact ⟨env, G, c, env', hs, e1, fun H' G' hh hg s1 => hq H' G' hh hg s1⟩
/-- a value that is a truth, as a test -/
def mBool (m : MV) : MT := fun env => match m env with
  | some (.bool b, _, e) => some (b, e)
  | _ => none
theorem tT_bool {m : MV} {σ : St} {H : Hp} {Q : Bool → Hp → Prop} (h : tT C (mBool m) σ H Q) : tE C m σ H fun x H' => ∃ k, x = .bl k ∧ Q k H' := by
  obtain ⟨env, G, b, env', hs, hm, hq⟩ := h
  unfold mBool at hm
  split at hm
  · rename_i b' k e e1
    cases hm
    refine ⟨env, G, _, k, env', hs, e1, fun v H' G' hh hg s1 hv => ?_⟩
    obtain ⟨G2, g2, s2, rb⟩ := s1.useR hv
    exact ⟨b, rb.bool, hq H' G2 hh (hg.trans g2) s2⟩
  · cases hm
theorem ptCmp {a b : Expr} {ma mb : MV} {op : CmpOp} {pos : Pos} (e : C.K = X.K) (L : Low X) (hu : X.A.units + 65 < cLine) (ha : PE X a (tE C ma)) (hb : PE X b (tE C mb)) (hp : plainE b = true) : PT X (.Compare a [op] [b] pos) (tT C (mBool (ev2 ma mb (dCmpR op)))) :=
  ptImp (pt_cmpR (opr_cmp L hu op) ha hb (plain_mark hp op)) fun σ H Q q => tE.two (by rw [e]; exact d2_rD _ _) (tT_bool q)
/-! ### and, or, not as values (truths) -/
def vAnd : List MV → MV
  | [] => fun _ => none
  | [m] => m
  | m :: ms => fun env => match m env with
    | some (.bool true, _, e) => vAnd ms e
    | some (.bool false, _, e) => some (.bool false, .sh, e)
    | _ => none
def vOr : List MV → MV
  | [] => fun _ => none
  | [m] => m
  | m :: ms => fun env => match m env with
    | some (.bool false, _, e) => vOr ms e
    | some (.bool true, _, e) => some (.bool true, .sh, e)
    | _ => none
inductive PEall (X : Cx) (C : Cn) : List Expr → List MV → Prop
  | nil : PEall X C [] []
  | cons {e : Expr} {es : List Expr} {m : MV} {ms : List MV} : PE X e (tE C m) → PEall X C es ms → PEall X C (e :: es) (m :: ms)
theorem peAnd {pos : Pos} : ∀ {es : List Expr} {ms : List MV}, es ≠ [] → PEall X C es ms → PE X (.BoolOp .And es pos) (tE C (vAnd ms))
  | [], _, h, _ => absurd rfl h
  | [e], _, _, .cons h .nil => pe_one h
  | e :: b :: r, m :: m2 :: ms, _, .cons h t => by
    refine peImp (pe_and h (peAnd (by simp) t)) fun σ H Q q => ?_
    obtain ⟨env, G, d, k, env', hs, hm, hq⟩ := q
    simp only [vAnd] at hm
    split at hm
    · rename_i k1 e1 h1
      refine ⟨env, G, _, k1, e1, hs, h1, fun v H' G' hh hg s1 hv => ?_⟩
      obtain ⟨G2, g2, s2, rb⟩ := s1.useR hv
      refine ⟨true, rb.bool, ?_⟩
      rw [if_pos rfl]
      exact ⟨e1, G2, d, k, env', s2, hm, fun v2 H2 G3 h2 g3 s3 hv2 => hq v2 H2 G3 (hh.trans h2) (hg.trans (g2.trans g3)) s3 hv2⟩
    · rename_i k1 e1 h1
      cases hm
      refine ⟨env, G, _, k1, env', hs, h1, fun v H' G' hh hg s1 hv => ?_⟩
      obtain ⟨G2, g2, s2, rb⟩ := s1.useR hv
      refine ⟨false, rb.bool, ?_⟩
      rw [if_neg (by decide)]
      exact hq _ H' G2 hh (hg.trans g2) s2 (.bl false)
    · cases hm
theorem peOr {pos : Pos} : ∀ {es : List Expr} {ms : List MV}, es ≠ [] → PEall X C es ms → PE X (.BoolOp .Or es pos) (tE C (vOr ms))
  | [], _, h, _ => absurd rfl h
  | [e], _, _, .cons h .nil => pe_one h
  | e :: b :: r, m :: m2 :: ms, _, .cons h t => by
    refine peImp (pe_or h (peOr (by simp) t)) fun σ H Q q => ?_
    obtain ⟨env, G, d, k, env', hs, hm, hq⟩ := q
    simp only [vOr] at hm
    split at hm
    · rename_i k1 e1 h1
      refine ⟨env, G, _, k1, e1, hs, h1, fun v H' G' hh hg s1 hv => ?_⟩
      obtain ⟨G2, g2, s2, rb⟩ := s1.useR hv
      refine ⟨false, rb.bool, ?_⟩
      rw [if_neg (by decide)]
      exact ⟨e1, G2, d, k, env', s2, hm, fun v2 H2 G3 h2 g3 s3 hv2 => hq v2 H2 G3 (hh.trans h2) (hg.trans (g2.trans g3)) s3 hv2⟩
    · rename_i k1 e1 h1
      cases hm
      refine ⟨env, G, _, k1, env', hs, h1, fun v H' G' hh hg s1 hv => ?_⟩
      obtain ⟨G2, g2, s2, rb⟩ := s1.useR hv
      refine ⟨true, rb.bool, ?_⟩
      rw [if_pos rfl]
      exact hq _ H' G2 hh (hg.trans g2) s2 (.bl true)
    · cases hm
def dNot (d : D) : Option (D × Bool) := match dTru d with
  | some b => some (.bool (!b), false)
  | none => none
theorem peNot {a : Expr} {m : MV} {pos : Pos} (e : C.K = X.K) (h : PE X a (tE C m)) : PE X (.UnaryOp .Not a pos) (tE C (ev1 m dNot)) := by
  refine peImp (pe_notT h) fun σ H Q q => tE.one (r := fun x H Q => ∃ k, TruV X.K x H k ∧ Q (.bl (!k)) H) (fun x H G Q a c fr gh rb hg hq => ?_) q
  unfold dNot at hg
  split at hg
  · rename_i b hb
    cases hg
    rw [← e]
    exact ⟨b, truV_of gh rb hb, res_sc gh hq (.bl _)⟩
  · cases hg
/-! ### a if c else b -/
def mIf (c : MT) (a b : MV) : MV := fun env => match c env with
  | some (true, e) => a e
  | some (false, e) => b e
  | none => none
theorem peIf {c a b : Expr} {mc : MT} {ma mb : MV} {pos : Pos} (hc : PT X c (tT C mc)) (ha : PE X a (tE C ma)) (hb : PE X b (tE C mb)) : PE X (.IfExp c a b pos) (tE C (mIf mc ma mb)) := by
  refine peImp (pe_ifExp hc ha hb) fun σ H Q q => ?_
  obtain ⟨env, G, d, k, env', hs, hm, hq⟩ := q
  unfold mIf at hm
  split at hm
  · rename_i e1 h1
    refine ⟨env, G, _, e1, hs, h1, fun H' G' hh hg s1 => ?_⟩
    dsimp only
    rw [if_pos rfl]
    exact ⟨e1, G', d, k, env', s1, hm, fun v H2 G2 h2 g2 s2 hv => hq v H2 G2 (hh.trans h2) (hg.trans g2) s2 hv⟩
  · rename_i e1 h1
    refine ⟨env, G, _, e1, hs, h1, fun H' G' hh hg s1 => ?_⟩
    dsimp only
    rw [if_neg (by decide)]
    exact ⟨e1, G', d, k, env', s1, hm, fun v H2 G2 h2 g2 s2 hv => hq v H2 G2 (hh.trans h2) (hg.trans g2) s2 hv⟩
  · cases hm
/-! ### a op1 b op2 c -/
def mChain (op op' : CmpOp) (ma mb mc : MV) : MV := fun env => match ma env with
  | some (a, _, e1) => (match mb e1 with
    | some (b, _, e2) => (match dCmp op a b with
      | some true => (match mc e2 with
        | some (c, _, e3) => (match dCmp op' b c with
          | some r => some (.bool r, .sh, e3)
          | none => none)
        | none => none)
      | some false => some (.bool false, .sh, e2)
      | none => none)
    | none => none)
  | none => none
theorem tE_chain {K : PySem.W.Frag} (e : C.K = K) {op op' : CmpOp} {ma mb mc : MV} {σ : St} {H : Hp} {Q : VK} (h : tE C (mChain op op' ma mb mc) σ H Q) :
    tChain (rD K (dCmpR op)) (rD K (dCmpR op')) (tE C ma) (tE C mb) (tE C mc) σ H Q := by
  subst e
  obtain ⟨env, G, d, k, env', hs, hm, hq⟩ := h
  unfold mChain at hm
  split at hm
  · rename_i a ka e1 h1
    split at hm
    · rename_i b kb e2 h2
      refine ⟨env, G, a, ka, e1, hs, h1, fun v H1 G1 hh hg s1 hv => ?_⟩
      obtain ⟨G2, g2, s2, rb⟩ := s1.useR hv
      refine ⟨e1, G2, b, kb, e2, s2, h2, fun u H3 G3 hh3 hg3 s3 hu => ?_⟩
      obtain ⟨G4, g4, s4, rb4⟩ := s3.useR hu
      split at hm
      · rename_i h3
        refine ⟨G4, a, b, .bool true, false, s4.gh, rb.mono (hg3.trans g4) hh3, rb4, by unfold dCmpR; rw [h3], fun z H5 G5 st rv => ?_⟩
        have ez : z = .bl true := by
          have rv' : Rp C.K G5 z (.bool true) := rv
          cases rv'
          rfl
        refine ⟨true, ez, ?_⟩
        rw [if_pos rfl]
        split at hm
        · rename_i c kc e3 h4
          refine ⟨e2, G5, c, kc, e3, s4.step st, h4, fun w H6 G6 hh6 hg6 s6 hw => ?_⟩
          obtain ⟨G7, g7, s7, rb7⟩ := s6.useR hw
          split at hm
          · rename_i r h5
            cases hm
            refine ⟨G7, b, c, .bool r, false, s7.gh, rb4.mono (st.gg.trans (hg6.trans g7)) (st.hh.trans hh6), rb7, by unfold dCmpR; rw [h5], fun z' H8 G8 st8 rv8 => ?_⟩
            exact hq z' H8 G8 (hh.trans (hh3.trans (st.hh.trans (hh6.trans st8.hh)))) (hg.trans (g2.trans (hg3.trans (g4.trans (st.gg.trans (hg6.trans (g7.trans st8.gg))))))) (s7.step st8) rv8
          · cases hm
        · cases hm
      · rename_i h3
        cases hm
        refine ⟨G4, a, b, .bool false, false, s4.gh, rb.mono (hg3.trans g4) hh3, rb4, by unfold dCmpR; rw [h3], fun z H5 G5 st rv => ?_⟩
        have ez : z = .bl false := by
          have rv' : Rp C.K G5 z (.bool false) := rv
          cases rv'
          rfl
        refine ⟨false, ez, ?_⟩
        rw [if_neg (by decide)]
        exact hq _ H5 G5 (hh.trans (hh3.trans st.hh)) (hg.trans (g2.trans (hg3.trans (g4.trans st.gg)))) (s4.step st) (.bl false)
      · cases hm
    · cases hm
  · cases hm
theorem plain_last {b c : Expr} (h : plainE c = true) (op op' : CmpOp) : lastMarks [op, op'] [b, c] = false := by
  show behindInMarks op' c = false
  exact plain_mark h op'
theorem peChain {a b c : Expr} {ma mb mc : MV} {op op' : CmpOp} {pos : Pos} (e : C.K = X.K) (L : Low X) (hu : X.A.units + 65 < cLine) (ha : PE X a (tE C ma)) (hb : PE X b (tE C mb)) (hc : PE X c (tE C mc)) (hp : plainE c = true) :
    PE X (.Compare a [op, op'] [b, c] pos) (tE C (mChain op op' ma mb mc)) :=
  peImp (pe_chain (opr_cmp L hu op) (opr_cmp L hu op') ha hb hc (plain_last hp op op')) fun σ H Q q => tE_chain e q
theorem ptChain {a b c : Expr} {ma mb mc : MV} {op op' : CmpOp} {pos : Pos} (e : C.K = X.K) (L : Low X) (hu : X.A.units + 65 < cLine) (ha : PE X a (tE C ma)) (hb : PE X b (tE C mb)) (hc : PE X c (tE C mc)) (hp : plainE c = true) :
    PT X (.Compare a [op, op'] [b, c] pos) (tT C (mBool (mChain op op' ma mb mc))) :=
  ptImp (pt_chain (opr_cmp L hu op) (opr_cmp L hu op') ha hb hc (plain_last hp op op')) fun σ H Q q => tE_chain e (tT_bool q)
/-! ### argument lists: shared, and read -/
def lS : List MV → ML
  | [] => fun env => some ([], env)
  | m :: ms => fun env => match m env with
    | some (d, k, e) => (match lS ms (shEnv k d e) with
      | some (ds, e') => some (d :: ds, e')
      | none => none)
    | none => none
def lR : List MV → ML
  | [] => fun env => some ([], env)
  | m :: ms => fun env => match m env with
    | some (d, _, e) => (match lR ms e with
      | some (ds, e') => some (d :: ds, e')
      | none => none)
    | none => none
/-- a list of readable values -/
def tR (C : Cn) (m : ML) : TA := fun σ H Q => ∃ env G ds env', SR C env σ H G ∧ m env = some (ds, env') ∧
  ∀ vs H' G', Same H H' → Same G G' → SR C env' σ H' G' → RBAll C.K G' H' vs ds → Q vs H'
theorem paS : ∀ {es : List Expr} {ms : List MV}, es.all plainE = true → PEall X C es ms → PA X es (tL C (lS ms))
  | [], _, _, .nil => paImp pa_nil fun σ H Q q => by
    obtain ⟨env, G, ds, env', hs, hm, hq⟩ := q
    cases hm
    exact hq [] H G (Same.refl _) (Same.refl _) hs .nil
  | e :: es, _, hp, .cons (m := m) (ms := ms) h t => by
    rw [List.all_cons, Bool.and_eq_true] at hp
    refine paImp (pa_cons h (paS hp.2 t) (plain_star hp.1 es X.env)) fun σ H Q q => ?_
    obtain ⟨env, G, ds, env', hs, hm, hq⟩ := q
    simp only [lS] at hm
    split at hm
    · rename_i d k e1 h1
      split at hm
      · rename_i ds2 e2 h2
        cases hm
        refine ⟨env, G, d, k, e1, hs, h1, fun v H1 G1 hh hg s1 hv => ?_⟩
        obtain ⟨G2, g2, s2, rp⟩ := s1.useS hv
        refine ⟨_, G2, ds2, env', s2, h2, fun vs H3 G3 hh3 hg3 s3 rs => ?_⟩
        exact hq (v :: vs) H3 G3 (hh.trans hh3) (hg.trans (g2.trans hg3)) s3 (.cons (Rp.mono hg3 _ _ rp) rs)
      · cases hm
    · cases hm
theorem paR : ∀ {es : List Expr} {ms : List MV}, es.all plainE = true → PEall X C es ms → PA X es (tR C (lR ms))
  | [], _, _, .nil => paImp pa_nil fun σ H Q q => by
    obtain ⟨env, G, ds, env', hs, hm, hq⟩ := q
    cases hm
    exact hq [] H G (Same.refl _) (Same.refl _) hs .nil
  | e :: es, _, hp, .cons (m := m) (ms := ms) h t => by
    rw [List.all_cons, Bool.and_eq_true] at hp
    refine paImp (pa_cons h (paR hp.2 t) (plain_star hp.1 es X.env)) fun σ H Q q => ?_
    obtain ⟨env, G, ds, env', hs, hm, hq⟩ := q
    simp only [lR] at hm
    split at hm
    · rename_i d k e1 h1
      split at hm
      · rename_i ds2 e2 h2
        cases hm
        refine ⟨env, G, d, k, e1, hs, h1, fun v H1 G1 hh hg s1 hv => ?_⟩
        obtain ⟨G2, g2, s2, rb⟩ := s1.useR hv
        refine ⟨_, G2, ds2, env', s2, h2, fun vs H3 G3 hh3 hg3 s3 rs => ?_⟩
        exact hq (v :: vs) H3 G3 (hh.trans hh3) (hg.trans (g2.trans hg3)) s3 (.cons (rb.mono hg3 hh3) rs)
      · cases hm
    · cases hm
/-! ### displays -/
def mTup (m : ML) : MV := fun env => match m env with
  | some (ds, e) => if ds.length ≤ sizeLine then some (.tuple ds, .sh, e) else none
  | none => none
def mLst (m : ML) : MV := fun env => match m env with
  | some (ds, e) => if ds.length ≤ sizeLine then some (.list ds, .fr, e) else none
  | none => none
theorem peTup {es : List Expr} {m : ML} {x1 : Nat} {pos : Pos} (h : PA X es (tL C m)) : PE X (.Tuple es x1 pos) (tE C (mTup m)) := by
  refine peImp (pe_tup h) fun σ H Q q => ?_
  obtain ⟨env, G, d, k, env', hs, hm, hq⟩ := q
  unfold mTup at hm
  split at hm
  · rename_i ds e h1
    split at hm
    · rename_i hz
      cases hm
      refine ⟨env, G, ds, env', hs, h1, fun vs H1 G1 hh hg s1 rs => ⟨by rw [rs.length]; exact hz, fun p hp => ?_⟩⟩
      have st : Step H1 G1 (upd H1 p (.tup vs)) (upd G1 p (.tup vs)) := .new s1.gh hp
      exact hq _ _ _ (hh.trans st.hh) (hg.trans st.gg) (s1.step st) (.tup (.inl (.inl upd_same)) (RpAll.mono st.gg _ _ rs))
    · cases hm
  · cases hm
theorem peLst {es : List Expr} {m : ML} {pos : Pos} (h : PA X es (tL C m)) : PE X (.List es pos) (tE C (mLst m)) := by
  refine peImp (pe_lst h) fun σ H Q q => ?_
  obtain ⟨env, G, d, k, env', hs, hm, hq⟩ := q
  unfold mLst at hm
  split at hm
  · rename_i ds e h1
    split at hm
    · rename_i hz
      cases hm
      refine ⟨env, G, ds, env', hs, h1, fun vs H1 G1 hh hg s1 rs => ⟨by rw [rs.length]; exact hz, fun p hp => ?_⟩⟩
      have st : Step H1 G1 (upd H1 p (.lst vs)) G1 := .newO s1.gh hp
      have rv : ResV C.K H1 G1 (upd H1 p (.lst vs)) true (.ref p) (.list ds) := by
        show ∃ p o, _
        exact ⟨p, _, rfl, hp, s1.gh.free hp, upd_same, .inl ⟨vs, ds, rfl, rfl, rs⟩⟩
      exact hq _ _ _ (hh.trans st.hh) (hg.trans st.gg) (s1.step st) (rv.vr s1)
    · cases hm
  · cases hm
def mDct0 : MV := fun env => some (.dict [], .fr, env)
theorem peDct0 {pos : Pos} : PE X (.Dict [] [] pos) (tE C mDct0) := by
  refine peImp pe_dnewK fun σ H Q q => ?_
  obtain ⟨env, G, d, k, env', hs, hm, hq⟩ := q
  cases hm
  intro p hp
  have st : Step H G (upd H p (.dK [])) G := .newO hs.gh hp
  have rv : ResV C.K H G (upd H p (.dK [])) true (.ref p) (.dict []) := by
    show ∃ p o, _
    exact ⟨p, _, rfl, hp, hs.gh.free hp, upd_same, .inr ⟨[], [], rfl, rfl, .nil⟩⟩
  exact hq _ _ _ st.hh st.gg (hs.step st) (rv.vr hs)
/-! ### built-in functions -/
def mBi (b : Bi) (m : ML) : MV := fun env => match m env with
  | some (ds, e) => (match dBi b ds with
    | some (c, fr) => some (c, kOf fr, e)
    | none => none)
  | none => none
theorem tCB_bi {b : Bi} {m : ML} {σ : St} {H : Hp} {Q : VK} (h : tE C (mBi b m) σ H Q) : tCB (rC C.K (dBi b)) (tR C m) σ H Q := by
  obtain ⟨env, G, d, k, env', hs, hm, hq⟩ := h
  unfold mBi at hm
  split at hm
  · rename_i ds e h1
    split at hm
    · rename_i c fr h2
      cases hm
      refine ⟨env, G, ds, env', hs, h1, fun vs H1 G1 hh hg s1 rs => ?_⟩
      refine ⟨G1, ds, d, fr, s1.gh, rs, h2, fun z H' G' st rv => ?_⟩
      exact hq z H' G' (hh.trans st.hh) (hg.trans st.gg) (s1.step st) (rv.vr s1)
    · cases hm
  · cases hm
end
end HC
set_option Elab.async false
set_option linter.all false
set_option maxRecDepth 100000
set_option maxHeartbeats 1000000
set_option autoImplicit false
/-! HC, part V: enumerate and zip over lists and tuples, in any mix. -/
namespace HC
open PySem PySem.Spec PyProof.Rows L2
/-! ### a sequence: a list (false), a tuple (true) -/
def SqA (t : Bool) (K : PySem.W.Frag) (H : Hp) (a : Addr) (xs : List V) : Prop := match t with
  | true => SqT K H a xs
  | false => SqL K H a xs
def SIt (t : Bool) (h : Heap) (it a : Addr) (i : Nat) : Prop := match t with
  | true => h.IsTupleIter it a i
  | false => h.IsListIter it a i
def IsS (t : Bool) (h : Heap) (a : Addr) (items : Array Value) : Prop := match t with
  | true => h.IsTuple a items
  | false => h.IsList a items
def sObj (t : Bool) (a : Addr) : Obj := match t with
  | true => { cls := .type "tuple_iterator", data := .fields #[.ref a, .int 0 0] }
  | false => { cls := .type "list_iterator", data := .fields #[.ref a, .int 0 0] }
theorem sq_is {X : Cx} {pins : List (Addr × Obj)} {σ : St} {H : Hp} {s : Shared} {t : Bool} {a : Addr} {xs : List V} (I : Inv X pins σ H s) (h : SqA t X.K H a xs) : ∃ its : List Value, Vals xs its ∧ IsS t s.heap a its.toArray ∧ xs.length ≤ sizeLine := by
  cases t with
  | true => exact I.tuple h
  | false =>
    obtain ⟨its, r, p, z⟩ := I.list h
    exact ⟨its, r, p.isList, z⟩
theorem sq_inj {X : Cx} {pins : List (Addr × Obj)} {σ : St} {H : Hp} {s : Shared} {t : Bool} {a : Addr} {xs ys : List V} (I : Inv X pins σ H s) (h : SqA t X.K H a xs) (h' : SqA t X.K H a ys) : xs = ys := by
  cases t with
  | true => exact I.tuple_inj h h'
  | false => exact I.list_inj h h'
theorem s_lt {t : Bool} {h : Heap} {a : Addr} {items : Array Value} (x : IsS t h a items) : a < h.objs.size := by
  cases t <;> (obtain ⟨o, ho, _⟩ := x; exact Heap.lt_size ho)
theorem si_lt {t : Bool} {h : Heap} {a it : Addr} {i : Nat} (x : SIt t h it a i) : it < h.objs.size := by
  cases t <;> (obtain ⟨o, ho, _⟩ := x; exact Heap.lt_size ho)
theorem si_obj {t : Bool} {h : Heap} {a it : Addr} {i : Nat} (x : SIt t h it a i) : ∃ o, h.get? it = some o ∧ ∀ v, o.data ≠ .cell v := by
  cases t <;> (obtain ⟨o, ho, _, hd⟩ := x; exact ⟨o, ho, fun v q => by rw [hd] at q; cases q⟩)
theorem si_at {t : Bool} {h h' : Heap} {a it : Addr} {i : Nat} (x : SIt t h it a i) (k : ∀ o, h.get? it = some o → h'.get? it = some o) : SIt t h' it a i := by
  cases t <;> (obtain ⟨o, ho, r⟩ := x; exact ⟨o, k o ho, r⟩)
theorem s_ne {t t' : Bool} {h : Heap} {a b it : Addr} {i : Nat} {items : Array Value} (x : SIt t h it a i) (y : IsS t' h b items) : b ≠ it := fun e => by
  subst e
  cases t <;> cases t' <;> (obtain ⟨o, ho, hc, _⟩ := x; obtain ⟨o', ho', hc', _⟩ := y; rw [ho] at ho'; cases ho'; rw [hc] at hc'; simp at hc')
theorem sDraws {prog : Program} {w : World} {A : Around} {t : Bool} (hh : A.handled = none) (it a : Addr) (hne : a ≠ it) (items : Array Value) :
    Draws prog w A it [it, a] items.size (fun i v => items[i]? = some v) (fun i h => SIt t h it a i ∧ IsS t h a items) := by
  cases t with
  | true => exact Draws.tuple hh it a hne items
  | false => exact Draws.list hh it a hne items
theorem sBegins (t : Bool) (a : Addr) (items : Array Value) : Begins (.ref a) (sObj t a) fun h => IsS t h a items := by
  cases t with
  | true => exact begins_tuple a items
  | false => exact begins_list a items
theorem si_new {t : Bool} {h : Heap} {it a : Addr} (e : h.get? it = some (sObj t a)) : SIt t h it a 0 := by
  cases t <;> exact ⟨_, e, rfl, rfl⟩
/-! ### enumerate(v) -/
theorem meets_enum1 {v : Value} {o : Obj} {H : Heap → Prop} (B : Begins v o H) :
    Meets (Builtin.«enumerate.__new__» ⟨[.type "enumerate", v], []⟩) (fun _ R s => H s.heap ∧
      R (.ok (.ret (.ref (s.heap.push o).objs.size))) { s with heap := (s.heap.push o).push { cls := .type "enumerate", data := .fields #[.none, .bool false, .ref s.heap.objs.size, rawInt 0, .none, .none] } }) :=
  .of_wp fun prog w A R s h => by
    obtain ⟨hp, g, d, tk, os⟩ := s; obtain ⟨h1, h⟩ := h
    have hsub := PySem.sub_enumerate
    have q1 : ∀ {A' : Around} {E : Value → Shared → Prop} {Q : Value → Shared → Prop}, Q (.ref hp.objs.size) ⟨hp.push o, g, d, tk, os⟩ → wpAny (model prog w) A' (pyIter v) Q E ⟨hp, g, d, tk, os⟩ :=
      fun q => B.iter prog w _ _ ⟨hp, g, d, tk, os⟩ _ h1 q
    wp_walk using q1
    refine wpAny_stack_any fun st => wpAny_pure ?_
    split
    · rename_i c _ _ _ _ _
      cases (c == Value.type "enumerate")
      · wp_walk using q1
        exact ⟨_, rfl, h⟩
      · wp_walk using q1
        exact ⟨_, rfl, h⟩
    · wp_walk using q1
      exact ⟨_, rfl, h⟩
theorem enum_begins1 {prog : Program} {w : World} {A : Around} {E : Value → Shared → Prop} {s : Shared} {v : Value} {o : Obj} {H : Heap → Prop} {Q : Value → Shared → Prop} (B : Begins v o H) (h1 : H s.heap)
    (h : ∀ h', IsEnum h' (s.heap.objs.size + 1) s.heap.objs.size 0 .none → h'.get? s.heap.objs.size = some o → h'.objs.size = s.heap.objs.size + 2 →
      (∀ b o, s.heap.get? b = some o → h'.get? b = some o) → Q (.ref (s.heap.objs.size + 1)) { s with heap := h' }) :
    wpAny (model prog w) A (call (.type "enumerate") [v]) Q E s := by
  refine callType_new PySem.F.called_enumerate (by decide) (PySem.F.typeCall_enumerate_1 _) (PySem.F.newCall_enumerate_1 _) (fun obj => PySem.F.args_object_init_2 obj _) PySem.F.entry_enumerate_new
    (meets_enum1 B) ⟨h1, ?_⟩
  have hz : (s.heap.push o).objs.size = s.heap.objs.size + 1 := Heap.size_push ..
  show _ ∧ _
  rw [hz]
  have he : IsEnum ((s.heap.push o).push { cls := .type "enumerate", data := .fields #[.none, .bool false, .ref s.heap.objs.size, rawInt 0, .none, .none] }) (s.heap.objs.size + 1) s.heap.objs.size 0 .none := by
    have := Heap.get?_push_size (s.heap.push o) (o := { cls := .type "enumerate", data := .fields #[.none, .bool false, .ref s.heap.objs.size, rawInt 0, .none, .none] }) rfl
    rw [hz] at this; exact this
  refine ⟨⟨_, he, rfl⟩, h _ he (Heap.get?_push_of_some _ (Heap.get?_push_size _ B.free)) (by rw [Heap.size_push, hz]) fun b o x => Heap.get?_push_of_some _ (Heap.get?_push_of_some _ x)⟩
/-- the sequence at a as it stands at each turn, the items in new pairs -/
def IteA (t : Bool) (K : PySem.W.Frag) (a : Addr) : It :=
  ⟨fun i H => ∃ (xs : List V) (x : V), SqA t K H a xs ∧ xs[i]? = some x,
    fun i H v H' => ∃ T x, v = .ref T ∧ H T = none ∧ H' = upd H T (.tup [.int (i : Nat), x]) ∧ ∀ xs, SqA t K H a xs → xs[i]? = some x,
    fun i H => ∃ xs : List V, SqA t K H a xs ∧ xs.length = i⟩
theorem turn_enumA {P : Program} {w : World} {K : PySem.W.Frag} {elts : List Expr} {kk : Nat} {tpos : Pos} (t : Bool) (a e it : Addr) :
    Turn P w K (.Tuple elts kk tpos) (IteA t K a) [e, it] e (fun i h => (∃ old, IsEnum h e it ((i : Nat) : Int) old) ∧ SIt t h it a i ∧ e ≠ it) where
  mem := by simp
  obj := fun i h st b hb => by
    obtain ⟨⟨old, he⟩, hi, _⟩ := st
    have e' : b = e ∨ b = it := by simpa using hb
    rcases e' with z | z
    · rw [z]; exact ⟨_, he, fun v q => nomatch q⟩
    · rw [z]; exact si_obj hi
  keep := fun i h h' st k => let ⟨⟨old, he⟩, hi, hne⟩ := st; ⟨⟨old, k e (by simp) _ he⟩, si_at hi fun o q => k it (by simp) o q, hne⟩
  item := by
    intro X hP hw hK hc i pins s σ H E I hf st hg
    subst hP hw hK
    obtain ⟨⟨old, he⟩, hit, hne⟩ := st
    obtain ⟨xs, x, hq, hx⟩ := hg
    obtain ⟨its, rv, p, hz⟩ := sq_is I hq
    obtain ⟨u, hu, ru⟩ := rv.get hx
    have hel : e < s.heap.objs.size := Heap.lt_size he
    have hil : it < s.heap.objs.size := si_lt hit
    have hea : e ∉ [it, a] := fun q => by
      have e' : e = it ∨ e = a := by simpa using q
      rcases e' with z | z
      · exact hne z
      · subst z
        cases t <;> (obtain ⟨o, ho, hc', _⟩ := p; rw [he] at ho; cases ho; simp at hc')
    have hlt : i < its.toArray.size := by
      have := (List.getElem?_eq_some_iff.mp hu).1
      simpa using this
    refine wpAny_pyNext_enum_itemC (sDraws (A := X.A.in1) (t := t) (I.ok.hd hc) it a (s_ne hit p) its.toArray) he ⟨hit, p⟩ hlt hne hea fun y h' tk hy ho hst hT hsz hk => ?_
    have ey : y = u := by
      have : its.toArray[i]? = some u := by simpa using hu
      rw [this] at hy
      exact (Option.some.inj hy).symm
    subst ey
    refine ⟨_, rfl, wpAny_letOwnedTupleGo_enum (s := { s with heap := h', toks := tk + 1 }) ho fun h'' he' sb => ?_⟩
    have hT2 : h''.get? s.heap.objs.size = some { cls := .type "tuple", data := .seq #[.int i tk, y] } := (sb.2 _ (Nat.ne_of_gt hel)).trans hT
    have new : ObjOk X.prog X.w (upd H s.heap.objs.size (.tup [.int (i : Nat), x])) h'' s.heap.objs.size (.tup [.int (i : Nat), x]) :=
      ⟨by show 2 ≤ sizeLine; decide, [.int i tk, y], .cons ⟨_, rfl⟩ (.cons ru .nil), ⟨_, hT2, rfl, _, rfl⟩⟩
    have I1 : Inv X pins σ (upd H s.heap.objs.size (.tup [.int (i : Nat), x])) { s with heap := h'', toks := tk + 1 } :=
      I.turnedNew (ch := [e, it]) (fun b ob hb q => (sb.2 b (fun z => hb (by simp [z]))).trans (hk b ob (fun z => hb (by simp [z])) (fun z => hb (by simp [z])) q)) hf (Nat.le_refl _) new
    refine ⟨.ref s.heap.objs.size, _, I1, rfl, ⟨_, x, rfl, I.hok.fresh (Nat.le_refl _), rfl, fun ys hy => by rw [sq_inj I hy hq]; exact hx⟩, ⟨⟨y, ?_⟩, si_at hst.1 fun o q => (sb.2 it (Ne.symm hne)).trans q, hne⟩, fun b hb => ?_⟩
    · have e1 : ((i + 1 : Nat) : Int) = (i : Int) + 1 := by omega
      rw [e1]; exact he'
    · have hb' : b < s.heap.objs.size := by
        have e' : b = e ∨ b = it := by simpa using hb
        rcases e' with z | z
        · rw [z]; exact hel
        · rw [z]; exact hil
      rw [upd_ne (Nat.ne_of_lt hb')]
      exact (hf b hb).1
  done := by
    intro X hP hw hK hc i pins s σ H E I hf st hg
    subst hP hw hK
    obtain ⟨⟨old, he⟩, hit, hne⟩ := st
    obtain ⟨xs, hq, hx⟩ := hg
    obtain ⟨its, rv, p, hz⟩ := sq_is I hq
    obtain ⟨f0, f1, f2, f3, f4, f5⟩ := hf it (by simp)
    have hl := rv.length
    have en : its.toArray.size = i := by
      rw [List.size_toArray]
      omega
    have hit' : SIt t s.heap it a its.toArray.size := by rw [en]; exact hit
    exact wpAny_pyNext_enum_endD (sDraws (A := X.A.in1) (t := t) (I.ok.hd hc) it a (s_ne hit p) its.toArray) he ⟨hit', p⟩ fun h' eb => ⟨rfl, I.turned (t' := s.toks) (fun b o hb q => eb b o hb q) f0 f1 f3 f4 f5⟩
  self := fun A i s Q E st h => let ⟨⟨_, he⟩, _⟩ := st; wpAny_pyIter_enum he h
def iEnumA (K : PySem.W.Frag) (ta : TA) : TI := fun σ H R => ta σ H fun vs H1 => ∃ t a xs, vs = [.ref a] ∧ SqA t K H1 a xs ∧ R (IteA t K a) H1
theorem pi_enumA {X : Cx} {e : Expr} {ta : TA} {p pos tpos : Pos} {elts : List Expr} {kk : Nat} (hg : Gl X "enumerate") (hm : X.mg "enumerate" = none) (ha : PA X [e] ta) (hs : starEach [e] X.env = [(false, eval e X.env)]) :
    PI X (.Tuple elts kk tpos) (.Call (.Name "enumerate" p) [e] [] pos) (iEnumA X.K ta) := by
  refine ⟨fun pins s σ H R I h => ?_⟩
  refine Call_ (ld_blt I hg hm boot_enumerate (PyProof.Rows.callWith_type1 (thn (ha.run pos pins s σ H _ I h) fun us s1 ⟨vs, H1, I1, r1, q1⟩ => ?_) hs rfl))
  obtain ⟨t, a, xs, ex, hq, q⟩ := q1
  subst ex
  cases r1 with
  | cons r rr =>
    cases rr
    cases r
    obtain ⟨its, rv, p', hz⟩ := sq_is I1 hq
    refine enum_begins1 (sBegins t a its.toArray) p' fun h' he hit hsz hk => wpAny_pyIter_enum he ?_
    have I2 : Inv X pins σ H1 { s1 with heap := h' } := I1.kept (t' := s1.toks) hk
    refine ⟨s1.heap.objs.size + 1, [s1.heap.objs.size + 1, s1.heap.objs.size], _, _, H1, rfl, I2, turn_enumA t a (s1.heap.objs.size + 1) s1.heap.objs.size, ⟨⟨.none, he⟩, si_new hit, Nat.succ_ne_self _⟩, fun b hb => ?_, q⟩
    have e' : b = s1.heap.objs.size + 1 ∨ b = s1.heap.objs.size := by simpa using hb
    have hle : s1.heap.objs.size ≤ b := by
      rcases e' with z | z
      · rw [z]; exact Nat.le_add_right _ _
      · rw [z]; exact Nat.le_refl _
    exact I1.fpOk hle (I1.hok.fresh hle)
/-! ### zip(v1, v2) -/
def ItzA (t1 t2 : Bool) (K : PySem.W.Frag) (a b : Addr) : It :=
  ⟨fun i H => ∃ (xs ys : List V) (x y : V), SqA t1 K H a xs ∧ SqA t2 K H b ys ∧ xs[i]? = some x ∧ ys[i]? = some y,
    fun i H v H' => ∃ T x y, v = .ref T ∧ H T = none ∧ H' = upd H T (.tup [x, y]) ∧ (∀ xs, SqA t1 K H a xs → xs[i]? = some x) ∧ ∀ ys, SqA t2 K H b ys → ys[i]? = some y,
    fun i H => ∃ xs ys : List V, SqA t1 K H a xs ∧ SqA t2 K H b ys ∧ i ≤ xs.length ∧ i ≤ ys.length ∧ (xs.length = i ∨ ys.length = i)⟩
theorem turn_zipA {P : Program} {w : World} {K : PySem.W.Frag} {elts : List Expr} {kk : Nat} {tpos : Pos} {t1 t2 : Bool} {a b z TI TO i1 i2 : Addr} (S : ZipSep2 z TI TO i1 i2 [i1, a] [i2, b]) :
    Turn P w K (.Tuple elts kk tpos) (ItzA t1 t2 K a b) [z, TI, TO, i1, i2] z (fun i h => IsZip h z TI TO .none ∧ IsTupOf2 h TI (.ref i1) (.ref i2) ∧ (∃ x y, IsTupOf2 h TO x y) ∧ SIt t1 h i1 a i ∧ SIt t2 h i2 b i) where
  mem := by simp
  obj := fun i h st c hc => by
    obtain ⟨hz, hTI, ⟨x, y, hTO⟩, h1, h2⟩ := st
    have e' : c = z ∨ c = TI ∨ c = TO ∨ c = i1 ∨ c = i2 := by simpa using hc
    rcases e' with q | q | q | q | q
    · rw [q]; exact ⟨_, hz, fun v q => nomatch q⟩
    · rw [q]; exact ⟨_, hTI, fun v q => nomatch q⟩
    · rw [q]; exact ⟨_, hTO, fun v q => nomatch q⟩
    · rw [q]; exact si_obj h1
    · rw [q]; exact si_obj h2
  keep := fun i h h' st k => by
    obtain ⟨hz, hTI, ⟨x, y, hTO⟩, h1, h2⟩ := st
    exact ⟨k z (by simp) _ hz, k TI (by simp) _ hTI, ⟨x, y, k TO (by simp) _ hTO⟩, si_at h1 fun o q => k i1 (by simp) o q, si_at h2 fun o q => k i2 (by simp) o q⟩
  item := by
    intro X hP hw hK hc i pins s σ H E I hf st hg
    subst hP hw hK
    obtain ⟨hz, hTI, ⟨x0, y0, hTO⟩, h1, h2⟩ := st
    obtain ⟨xs, ys, x, y, hqx, hqy, hx, hy⟩ := hg
    obtain ⟨its, rv, p, _⟩ := sq_is I hqx
    obtain ⟨its2, rv2, p2, _⟩ := sq_is I hqy
    obtain ⟨u, hu, ru⟩ := rv.get hx
    obtain ⟨u2, hu2, ru2⟩ := rv2.get hy
    have hzl : z < s.heap.objs.size := Heap.lt_size hz
    have l1 : i < its.toArray.size := by
      have := (List.getElem?_eq_some_iff.mp hu).1
      simpa using this
    have l2 : i < its2.toArray.size := by
      have := (List.getElem?_eq_some_iff.mp hu2).1
      simpa using this
    refine wpAny_pyNext_zipD2_item S (sDraws (A := X.A.in1) (t := t1) (I.ok.hd hc) i1 a (s_ne h1 p) its.toArray) (sDraws (A := X.A.in1) (t := t2) (I.ok.hd hc) i2 b (s_ne h2 p2) its2.toArray) hz hTI hTO ⟨h1, p⟩ ⟨h2, p2⟩ l1 l2 fun v1 v2 h' tk hv1 hv2 z' TO' s1' s2' hT hsz hk => ?_
    have e1 : v1 = u := by
      have : its.toArray[i]? = some u := by simpa using hu
      rw [this] at hv1
      exact (Option.some.inj hv1).symm
    have e2 : v2 = u2 := by
      have : its2.toArray[i]? = some u2 := by simpa using hu2
      rw [this] at hv2
      exact (Option.some.inj hv2).symm
    subst e1 e2
    refine ⟨_, rfl, wpAny_letOwnedTupleGo_zip (s := { s with heap := h', toks := tk }) z' fun h'' z'' sb => ?_⟩
    have hT2 : h''.get? s.heap.objs.size = some { cls := .type "tuple", data := .seq #[v1, v2] } := (sb.2 _ (Nat.ne_of_gt hzl)).trans hT
    have new : ObjOk X.prog X.w (upd H s.heap.objs.size (.tup [x, y])) h'' s.heap.objs.size (.tup [x, y]) :=
      ⟨by show 2 ≤ sizeLine; decide, [v1, v2], .cons ru (.cons ru2 .nil), ⟨_, hT2, rfl, _, rfl⟩⟩
    have I1 : Inv X pins σ (upd H s.heap.objs.size (.tup [x, y])) { s with heap := h'', toks := tk } :=
      I.turnedNew (ch := [z, TI, TO, i1, i2]) (fun c o hb q => (sb.2 c (fun q' => hb (by simp [q']))).trans (hk c o (fun q' => hb (by simp [q'])) (fun q' => hb (by simp [q'])) (fun q' => hb (by simp [q'])) (fun q' => hb (by simp [q'])) q)) hf (Nat.le_refl _) new
    have nz1 : i1 ≠ z := fun e => S.zf1 (by simp [e])
    have nz2 : i2 ≠ z := fun e => S.zf2 (by simp [e])
    refine ⟨.ref s.heap.objs.size, _, I1, rfl, ⟨_, x, y, rfl, I.hok.fresh (Nat.le_refl _), rfl, fun l hl => by rw [sq_inj I hl hqx]; exact hx, fun l hl => by rw [sq_inj I hl hqy]; exact hy⟩, ⟨z'', ?_, ⟨v1, v2, ?_⟩, ?_, ?_⟩, fun c hcm => ?_⟩
    · exact (sb.2 _ S.TIz).trans (hk _ _ S.TIz S.TITO S.TIi1 S.TIi2 hTI)
    · exact (sb.2 _ S.TOz).trans TO'
    · exact si_at s1'.1 fun o q => (sb.2 _ nz1).trans q
    · exact si_at s2'.1 fun o q => (sb.2 _ nz2).trans q
    · have hlt : c < s.heap.objs.size := by
        have e' : c = z ∨ c = TI ∨ c = TO ∨ c = i1 ∨ c = i2 := by simpa using hcm
        rcases e' with q | q | q | q | q
        · rw [q]; exact hzl
        · rw [q]; exact Heap.lt_size hTI
        · rw [q]; exact Heap.lt_size hTO
        · rw [q]; exact si_lt h1
        · rw [q]; exact si_lt h2
      rw [upd_ne (Nat.ne_of_lt hlt)]
      exact (hf c hcm).1
  done := by
    intro X hP hw hK hc i pins s σ H E I hf st hg
    subst hP hw hK
    obtain ⟨hz, hTI, ⟨x0, y0, hTO⟩, h1, h2⟩ := st
    obtain ⟨xs, ys, hqx, hqy, hi1, hi2, hend⟩ := hg
    obtain ⟨its, rv, p, _⟩ := sq_is I hqx
    obtain ⟨its2, rv2, p2, _⟩ := sq_is I hqy
    have l1 := rv.length
    have l2 := rv2.length
    refine wpAny_pyNext_zipD2_end S (sDraws (A := X.A.in1) (t := t1) (I.ok.hd hc) i1 a (s_ne h1 p) its.toArray) (sDraws (A := X.A.in1) (t := t2) (I.ok.hd hc) i2 b (s_ne h2 p2) its2.toArray) hz hTI hTO ⟨h1, p⟩ ⟨h2, p2⟩ (by rw [List.size_toArray]; omega) (by rw [List.size_toArray]; omega) (by rw [List.size_toArray, List.size_toArray]; omega) fun h' tk hk => ?_
    exact ⟨rfl, I.turnedL (t' := tk) (ch := [z, TI, TO, i1, i2]) (fun c o hb q =>
      hk c o (fun q' => hb (by simp [q'])) (fun q' => hb (by simp [q'])) (fun q' => hb (by simp [q'])) (fun q' => hb (by simp [q'])) q) hf⟩
  self := fun A i s Q E st h => wpAny_pyIter_zip st.1 h
def iZipA (K : PySem.W.Frag) (ta : TA) : TI := fun σ H R => ta σ H fun vs H1 => ∃ t1 t2 a b xs ys, vs = [.ref a, .ref b] ∧ SqA t1 K H1 a xs ∧ SqA t2 K H1 b ys ∧ R (ItzA t1 t2 K a b) H1
theorem pi_zipA {X : Cx} {e e2 : Expr} {ta : TA} {p pos tpos : Pos} {elts : List Expr} {kk : Nat} (hg : Gl X "zip") (hm : X.mg "zip" = none) (ha : PA X [e, e2] ta)
    (hs : starEach [e, e2] X.env = (false, eval e X.env) :: starEach [e2] X.env) (hpl : (backTo pos (starEach [e2] X.env)).any (·.1) = false) :
    PI X (.Tuple elts kk tpos) (.Call (.Name "zip" p) [e, e2] [] pos) (iZipA X.K ta) := by
  refine ⟨fun pins s σ H R I h => ?_⟩
  refine Call_ (ld_blt I hg hm PyProof.Rows.boot_zip (PyProof.Rows.callWith_type1 (thn (ha.run pos pins s σ H _ I h) fun us s1 ⟨vs, H1, I1, r1, q1⟩ => ?_) hs hpl))
  obtain ⟨t1, t2, a, b, xs, ys, ex, hqx, hqy, q⟩ := q1
  subst ex
  cases r1 with
  | cons r rr =>
    cases rr with
    | cons r' rr =>
      cases rr
      cases r
      cases r'
      obtain ⟨its, rv, p1, _⟩ := sq_is I1 hqx
      obtain ⟨its2, rv2, p2, _⟩ := sq_is I1 hqy
      have la : a < s1.heap.objs.size := s_lt p1
      have lb : b < s1.heap.objs.size := s_lt p2
      refine zip_begins2 (sBegins t1 a its.toArray) (sBegins t2 b its2.toArray) p1 p2 fun h' hz hTI hTO h1 h2 hsz hk => wpAny_pyIter_zip hz ?_
      have I2 : Inv X pins σ H1 { s1 with heap := h' } := I1.kept (t' := s1.toks) hk
      refine ⟨s1.heap.objs.size + 4, [s1.heap.objs.size + 4, s1.heap.objs.size + 2, s1.heap.objs.size + 3, s1.heap.objs.size, s1.heap.objs.size + 1], _, _, H1, rfl, I2, turn_zipA (zip_sep2 (N := s1.heap.objs.size) (fp1 := [a]) (fp2 := [b]) (fun c hc => by cases List.mem_singleton.mp hc; exact la) (fun c hc => by cases List.mem_singleton.mp hc; exact lb)), ⟨hz, hTI, ⟨_, _, hTO⟩, si_new h1, si_new h2⟩, fun c hcm => ?_, q⟩
      have e' : c = s1.heap.objs.size + 4 ∨ c = s1.heap.objs.size + 2 ∨ c = s1.heap.objs.size + 3 ∨ c = s1.heap.objs.size ∨ c = s1.heap.objs.size + 1 := by simpa using hcm
      have hle : s1.heap.objs.size ≤ c := by
        rcases e' with z | z | z | z | z
        · rw [z]; exact Nat.le_add_right _ _
        · rw [z]; exact Nat.le_add_right _ _
        · rw [z]; exact Nat.le_add_right _ _
        · rw [z]; exact Nat.le_refl _
        · rw [z]; exact Nat.le_add_right _ _
      exact I1.fpOk hle (I1.hok.fresh hle)
end HC
set_option Elab.async false
set_option linter.all false
set_option maxRecDepth 100000
set_option autoImplicit false
/-! HC, part F: what is walked, targets, comprehensions. -/
namespace HC
open PySem PySem.Spec PyProof.Rows L2
/-! ### what is walked -/
structure IterOk (K : PySem.W.Frag) (J : It) (ds : List D) (G1 : Hp) : Prop where
  len : ds.length ≤ sizeLine
  go : ∀ (i : Nat) d H G, ds[i]? = some d → Same G1 G → Same G H → J.go i H
  yl : ∀ (i : Nat) d H G x H', ds[i]? = some d → Same G1 G → Same G H → J.yld i H x H' → ∃ G', Step H G H' G' ∧ Rp K G' x d
  st : ∀ H G, Same G1 G → Same G H → J.stop ds.length H
theorem IterOk.mono {K : PySem.W.Frag} {J : It} {ds : List D} {G G' : Hp} (h : IterOk K J ds G) (e : Same G G') : IterOk K J ds G' :=
  ⟨h.len, fun i d H G1 h1 h2 h3 => h.go i d H G1 h1 (e.trans h2) h3, fun i d H G1 x H' h1 h2 h3 h4 => h.yl i d H G1 x H' h1 (e.trans h2) h3 h4, fun H G1 h2 h3 => h.st H G1 (e.trans h2) h3⟩
def tI (C : Cn) (m : ML) : TI := fun σ H R => ∃ env G ds env', SR C env σ H G ∧ m env = some (ds, env') ∧
  ∀ J H' G', Same H H' → Same G G' → SR C env' σ H' G' → IterOk C.K J ds G' → R J H'
def signs (x : Str) : List D := x.cps.toList.map fun c => .str ⟨#[c]⟩
def iterD : D → Option (List D)
  | .list ds => some ds
  | .tuple ds => some ds
  | .str x => if x.length ≤ sizeLine then some (signs x) else none
  | _ => none
def miVal (m : MV) : ML := fun env => match m env with
  | some (d, k, e) => (match iterD d with
    | some ds => some (ds, shEnv k d e)
    | none => none)
  | none => none
theorem sqL_det {X : Cx} {pins : List (Addr × Obj)} {σ : St} {H : Hp} {s : Shared} : True := trivial
theorem rd_sq {K : PySem.W.Frag} {H : Hp} {a : Addr} {xs : List V} (h : Rd H a (.lst xs)) : SqL K H a xs := .inl h
section
variable {X : Cx} {C : Cn}
theorem iter_list {K : PySem.W.Frag} {G : Hp} {a : Addr} {vs : List V} {ds : List D} (hz : vs.length ≤ sizeLine) (hs : Rd G a (.lst vs)) (hr : RpAll K G vs ds) : IterOk K (Itl K a) ds G where
  len := by rw [← hr.length]; exact hz
  go := fun i d H G1 h1 h2 h3 => by
    obtain ⟨v, e1, _⟩ := hr.get h1
    exact ⟨vs, v, rd_sq (rd_same (h2.trans h3) hs), e1⟩
  yl := fun i d H G1 x H' h1 h2 h3 h4 => by
    obtain ⟨v, e1, r1⟩ := hr.get h1
    obtain ⟨e, hy⟩ := h4
    subst e
    have := hy vs (rd_sq (rd_same (h2.trans h3) hs))
    rw [e1] at this
    cases this
    exact ⟨G1, .refl h3, Rp.mono h2 _ _ r1⟩
  st := fun H G1 h2 h3 => ⟨vs, rd_sq (rd_same (h2.trans h3) hs), by rw [hr.length]; exact Nat.le_refl _⟩
theorem iter_tup {K : PySem.W.Frag} {G : Hp} {a : Addr} {vs : List V} {ds : List D} (hz : vs.length ≤ sizeLine) (hs : SqT K G a vs) (hr : RpAll K G vs ds) : IterOk K (Itt K a) ds G where
  len := by rw [← hr.length]; exact hz
  go := fun i d H G1 h1 h2 h3 => by
    obtain ⟨v, e1, _⟩ := hr.get h1
    exact ⟨vs, v, sqT_same (h2.trans h3) hs, e1⟩
  yl := fun i d H G1 x H' h1 h2 h3 h4 => by
    obtain ⟨v, e1, r1⟩ := hr.get h1
    obtain ⟨e, hy⟩ := h4
    subst e
    have := hy vs (sqT_same (h2.trans h3) hs)
    rw [e1] at this
    cases this
    exact ⟨G1, .refl h3, Rp.mono h2 _ _ r1⟩
  st := fun H G1 h2 h3 => ⟨vs, sqT_same (h2.trans h3) hs, by rw [hr.length]; exact Nat.le_refl _⟩
theorem iter_str {K : PySem.W.Frag} {G : Hp} {x : Str} (hz : x.length ≤ sizeLine) : IterOk K (Its x) (signs x) G where
  len := by
    unfold signs
    rw [List.length_map, Array.length_toList]
    exact hz
  go := fun i d H G1 h1 h2 h3 => by
    have h1' := (List.getElem?_eq_some_iff.mp h1).1
    unfold signs at h1'
    rw [List.length_map, Array.length_toList] at h1'
    exact h1'
  yl := fun i d H G1 v H' h1 h2 h3 h4 => by
    obtain ⟨e, c, h5, h6⟩ := h4
    subst e h6
    unfold signs at h1
    rw [List.getElem?_map, Array.getElem?_toList, h5] at h1
    cases h1
    exact ⟨G1, .refl h3, .str _⟩
  st := fun H G1 h2 h3 => by
    unfold signs
    rw [List.length_map, Array.length_toList]
    exact Nat.le_refl _
theorem piUp {tg l : Expr} {wi wi' : TI} (h : ∀ σ H R, wi' σ H R → ∃ (wi : TI) (R0 : It → Hp → Prop), PI X tg l wi ∧ wi σ H R0 ∧ ∀ (pins : List (Addr × Obj)) (s : Shared) J H', Inv X pins σ H' s → R0 J H' → R J H') : PI X tg l wi' := by
  refine ⟨fun pins s σ H R I q => ?_⟩
  obtain ⟨wi, R0, hp, h0, up⟩ := h σ H R q
  refine thn (hp.run pins s σ H R0 I h0) fun v s1 h1 => thn h1 fun itv s2 ⟨it, fp, tn, J, H', e, I', T, st, f, r0⟩ => ?_
  exact ⟨it, fp, tn, J, H', e, I', T, st, f, up pins s2 J H' I' r0⟩
theorem piVal {tg l : Expr} {m : MV} (e : C.K = X.K) (hl : PE X l (tE C m)) : PI X tg l (tI C (miVal m)) := by
  refine piUp (wi := tI C (miVal m)) fun σ H R h => ?_
  obtain ⟨env, G, ds, env', hs, hm, hq⟩ := h
  unfold miVal at hm
  split at hm
  · rename_i d k e1 h1
    split at hm
    · rename_i ds' h2
      cases hm
      have he : ∀ {Q : VK}, (∀ v H1 G1, Same H H1 → Same G G1 → SR C (shEnv k d e1) σ H1 G1 → Rp C.K G1 v d → Q v H1) → tE C m σ H Q :=
        fun {Q} hQ => ⟨env, G, d, k, e1, hs, h1, fun v H1 G1 hh hg s1 hv => by
          obtain ⟨G2, g2, s2, rp⟩ := s1.useS hv
          exact hQ v H1 G2 hh (hg.trans g2) s2 rp⟩
      cases d with
      | list xs =>
        cases h2
        refine ⟨_, fun J H1 => ∃ a vs G1, J = Itl X.K a ∧ Same H H1 ∧ Same G G1 ∧ SR C (shEnv k (.list ds) e1) σ H1 G1 ∧ Rd G1 a (.lst vs) ∧ RpAll C.K G1 vs ds, pi_list hl, he fun v H1 G1 hh hg s1 rp => ?_, fun pins s J H' I ⟨a, vs, G1, ej, hh, hg, s1, hd, ha⟩ => ?_⟩
        · cases rp with
          | lst hd ha => exact ⟨_, rfl, ⟨_, rd_sq (rd_same s1.gh hd)⟩, _, _, G1, rfl, hh, hg, s1, hd, ha⟩
        · subst ej
          obtain ⟨hz, _⟩ := lstR I (rd_same s1.gh hd)
          rw [← e]
          exact hq _ H' G1 hh hg s1 (iter_list hz hd ha)
      | tuple xs =>
        cases h2
        refine ⟨_, fun J H1 => ∃ a vs G1, J = Itt X.K a ∧ Same H H1 ∧ Same G G1 ∧ SR C (shEnv k (.tuple ds) e1) σ H1 G1 ∧ SqT C.K G1 a vs ∧ RpAll C.K G1 vs ds, pi_tup hl, he fun v H1 G1 hh hg s1 rp => ?_, fun pins s J H' I ⟨a, vs, G1, ej, hh, hg, s1, hd, ha⟩ => ?_⟩
        · cases rp with
          | tup hd ha => exact ⟨_, rfl, ⟨_, by rw [← e]; exact sqT_same s1.gh hd⟩, _, _, G1, rfl, hh, hg, s1, hd, ha⟩
        · subst ej
          have hd' := sqT_same s1.gh hd
          rw [e] at hd'
          obtain ⟨its, r, _, hz⟩ := I.tuple hd'
          rw [← e]
          exact hq _ H' G1 hh hg s1 (iter_tup hz hd ha)
      | str x =>
        have h3 : (if x.length ≤ sizeLine then some (signs x) else none) = some ds := h2
        split at h3
        · rename_i hz
          cases h3
          refine ⟨_, fun J H1 => J = Its x ∧ ∃ G1, Same H H1 ∧ Same G G1 ∧ SR C (shEnv k (.str x) e1) σ H1 G1, pi_str hl, he fun v H1 G1 hh hg s1 rp => ?_, fun pins s J H' I ⟨ej, G1, hh, hg, s1⟩ => ?_⟩
          · cases rp
            exact ⟨x, rfl, rfl, G1, hh, hg, s1⟩
          · subst ej
            exact hq _ H' G1 hh hg s1 (iter_str hz)
        · cases h3
      | none => cases h2
      | bool _ => cases h2
      | int _ => cases h2
      | dict _ => cases h2
    · cases hm
  · cases hm
/-! ### range(n), enumerate(xs) -/
def rangeD (n : Nat) : List D := (List.range n).map fun i => .int (i : Nat)
def miRange (m : ML) : ML := fun env => match m env with
  | some ([.int j], e) => if j ≤ (sizeLine : Nat) ∧ -(2 ^ 62) ≤ j then some (rangeD j.toNat, e) else none
  | _ => none
theorem iter_range {K : PySem.W.Frag} {G : Hp} {n : Nat} (hz : n ≤ sizeLine) : IterOk K (Itr 0 n) (rangeD n) G where
  len := by
    unfold rangeD
    simpa using hz
  go := fun i d H G1 h1 h2 h3 => by
    have h1' := (List.getElem?_eq_some_iff.mp h1).1
    unfold rangeD at h1'
    show i < n
    simpa using h1'
  yl := fun i d H G1 v H' h1 h2 h3 h4 => by
    obtain ⟨e, h6⟩ := h4
    subst e h6
    have h1' := (List.getElem?_eq_some_iff.mp h1).1
    unfold rangeD at h1 h1'
    simp only [List.length_map, List.length_range] at h1'
    rw [List.getElem?_map, List.getElem?_range h1'] at h1
    cases h1
    refine ⟨G1, .refl h3, ?_⟩
    rw [Int.zero_add]
    exact .int _
  st := fun H G1 h2 h3 => by
    unfold rangeD
    show n ≤ _
    simp
theorem piRange {tg a : Expr} {m : ML} {p pos : Pos} (hg : Gl X "range") (hm : X.mg "range" = none) (ha : PA X [a] (tL C m)) (hp : plainE a = true) : PI X tg (.Call (.Name "range" p) [a] [] pos) (tI C (miRange m)) := by
  refine piUp (wi := tI C (miRange m)) fun σ H R h => ?_
  obtain ⟨env, G, ds, env', hs, hm', hq⟩ := h
  unfold miRange at hm'
  split at hm'
  · rename_i j e h1
    split at hm'
    · rename_i hj
      cases hm'
      have hsz := sizeLine_eq
      refine ⟨_, fun J H1 => J = Itr 0 j.toNat ∧ ∃ G1, Same H H1 ∧ Same G G1 ∧ SR C env' σ H1 G1, pi_range1 hg hm ha (plain_star hp [] X.env), ⟨env, G, _, _, hs, h1, fun vs H1 G1 hh hg' s1 rs => ?_⟩, fun pins s J H' I ⟨ej, G1, hh, hg', s1⟩ => ?_⟩
      · cases rs with
        | cons r1 r2 =>
          cases r2
          cases r1
          exact ⟨j, rfl, hj.2, by omega, rfl, G1, hh, hg', s1⟩
      · subst ej
        exact hq _ H' G1 hh hg' s1 (iter_range (by omega))
    · cases hm'
  · cases hm'
def enumD : Nat → List D → List D
  | _, [] => []
  | n, d :: ds => .tuple [.int n, d] :: enumD (n + 1) ds
theorem enumD_get : ∀ {ds : List D} {n i : Nat}, (enumD n ds)[i]? = (ds[i]?).map fun d => .tuple [.int ((n + i : Nat) : Int), d]
  | [], n, i => by simp [enumD]
  | d :: ds, n, 0 => by simp [enumD]
  | d :: ds, n, i + 1 => by
    simp only [enumD, List.getElem?_cons_succ]
    rw [enumD_get (ds := ds) (n := n + 1) (i := i), show n + 1 + i = n + (i + 1) by omega]
theorem enumD_len : ∀ {ds : List D} {n : Nat}, (enumD n ds).length = ds.length
  | [], _ => rfl
  | d :: ds, n => by simp [enumD, enumD_len]
def miEnum (m : ML) : ML := fun env => match m env with
  | some ([.list ds], e) => some (enumD 0 ds, e)
  | some ([.tuple ds], e) => some (enumD 0 ds, e)
  | _ => none
/-- a sequence among what is frozen -/
def SqG (t : Bool) (K : PySem.W.Frag) (G : Hp) (a : Addr) (vs : List V) : Prop := match t with
  | true => SqT K G a vs
  | false => Rd G a (.lst vs)
theorem SqG.sq {t : Bool} {K : PySem.W.Frag} {G H : Hp} {a : Addr} {vs : List V} (h : SqG t K G a vs) (e : Same G H) : SqA t K H a vs := by
  cases t with
  | true => exact sqT_same e h
  | false => exact rd_sq (rd_same e h)
theorem iter_enum {t : Bool} {K : PySem.W.Frag} {G : Hp} {a : Addr} {vs : List V} {ds : List D} (hz : vs.length ≤ sizeLine) (hs : SqG t K G a vs) (hr : RpAll K G vs ds) : IterOk K (IteA t K a) (enumD 0 ds) G where
  len := by rw [enumD_len, ← hr.length]; exact hz
  go := fun i d H G1 h1 h2 h3 => by
    rw [enumD_get] at h1
    cases e : ds[i]? with
    | none => rw [e] at h1; cases h1
    | some d' =>
      obtain ⟨v, e1, _⟩ := hr.get e
      exact ⟨vs, v, hs.sq (h2.trans h3), e1⟩
  yl := fun i d H G1 x H' h1 h2 h3 h4 => by
    rw [enumD_get] at h1
    cases e : ds[i]? with
    | none => rw [e] at h1; cases h1
    | some d' =>
      rw [e] at h1
      cases h1
      obtain ⟨v, e1, r1⟩ := hr.get e
      obtain ⟨T, y, ex, hT, eH, hy⟩ := h4
      have := hy vs (hs.sq (h2.trans h3))
      rw [e1] at this
      cases this
      subst ex eH
      refine ⟨_, .new h3 hT, .tup (.inl (.inl upd_same)) ?_⟩
      rw [Nat.zero_add]
      exact .cons (.int _) (.cons (Rp.mono (h2.trans (HC.same_upd (h3.free hT))) _ _ r1) .nil)
  st := fun H G1 h2 h3 => ⟨vs, hs.sq (h2.trans h3), by rw [enumD_len, hr.length]⟩
/-- a sequence's datum -/
theorem seq_rp {K : PySem.W.Frag} {G : Hp} {v : V} {ds : List D} {d : D} (h : Rp K G v d) (hd : d = .list ds ∨ d = .tuple ds) : ∃ t a vs, v = .ref a ∧ SqG t K G a vs ∧ RpAll K G vs ds := by
  rcases hd with rfl | rfl
  · cases h with
    | lst hs hr => exact ⟨false, _, _, rfl, hs, hr⟩
  · cases h with
    | tup hs hr => exact ⟨true, _, _, rfl, hs, hr⟩
theorem sqG_len {t : Bool} {pins : List (Addr × Obj)} {σ : St} {H G : Hp} {s : Shared} {a : Addr} {vs : List V} (I : Inv X pins σ H s) (h : SqG t X.K G a vs) (e : Same G H) : vs.length ≤ sizeLine := by
  obtain ⟨_, _, _, hz⟩ := sq_is I (h.sq e)
  exact hz
theorem miEnum_some {m : ML} {env : Env} {r : List D × Env} (h : miEnum m env = some r) : ∃ d ds, m env = some ([d], r.2) ∧ (d = .list ds ∨ d = .tuple ds) ∧ r.1 = enumD 0 ds := by
  unfold miEnum at h
  split at h
  · rename_i h1; cases h; exact ⟨_, _, h1, .inl rfl, rfl⟩
  · rename_i h1; cases h; exact ⟨_, _, h1, .inr rfl, rfl⟩
  · cases h
theorem piEnum {a : Expr} {m : ML} {p pos tpos : Pos} {elts : List Expr} {kk : Nat} (e : C.K = X.K) (hg : Gl X "enumerate") (hm : X.mg "enumerate" = none) (ha : PA X [a] (tL C m)) (hp : plainE a = true) :
    PI X (.Tuple elts kk tpos) (.Call (.Name "enumerate" p) [a] [] pos) (tI C (miEnum m)) := by
  refine piUp (wi := tI C (miEnum m)) fun σ H R h => ?_
  obtain ⟨env, G, ds, env', hs, hm', hq⟩ := h
  obtain ⟨d, xs, h1, hd, h2⟩ := miEnum_some hm'
  dsimp only at h1 h2
  subst h2
  refine ⟨_, fun J H1 => ∃ t a vs G1, J = IteA t X.K a ∧ Same H H1 ∧ Same G G1 ∧ SR C env' σ H1 G1 ∧ SqG t C.K G1 a vs ∧ RpAll C.K G1 vs xs, pi_enumA hg hm ha (plain_star hp [] X.env), ⟨env, G, _, _, hs, h1, fun vs H1 G1 hh hg' s1 rs => ?_⟩, fun pins s J H' I ⟨t, a, vs, G1, ej, hh, hg', s1, hd', ha'⟩ => ?_⟩
  · cases rs with
    | cons r1 r2 =>
      cases r2
      obtain ⟨t, a, ws, rfl, hsq, hr⟩ := seq_rp r1 hd
      exact ⟨t, a, ws, rfl, by rw [← e]; exact hsq.sq s1.gh, t, a, ws, G1, rfl, hh, hg', s1, hsq, hr⟩
  · subst ej
    rw [← e]
    exact hq _ H' G1 hh hg' s1 (iter_enum (sqG_len I (by rw [← e]; exact hd') s1.gh) hd' ha')
/-! ### zip -/
def zipD : List D → List D → List D
  | a :: as, b :: bs => .tuple [a, b] :: zipD as bs
  | _, _ => []
theorem zipD_get : ∀ {as bs : List D} {i : Nat} {d : D}, (zipD as bs)[i]? = some d → ∃ a b, as[i]? = some a ∧ bs[i]? = some b ∧ d = .tuple [a, b]
  | [], _, i, d, h => by simp [zipD] at h
  | _ :: _, [], i, d, h => by simp [zipD] at h
  | a :: as, b :: bs, 0, d, h => by
    simp [zipD] at h
    exact ⟨a, b, rfl, rfl, h.symm⟩
  | a :: as, b :: bs, i + 1, d, h => by
    simp only [zipD, List.getElem?_cons_succ] at h ⊢
    exact zipD_get h
theorem zipD_len : ∀ {as bs : List D}, (zipD as bs).length = min as.length bs.length
  | [], _ => by simp [zipD]
  | _ :: _, [] => by simp [zipD]
  | a :: as, b :: bs => by
    simp only [zipD, List.length_cons, zipD_len]
    omega
def seqOf : D → Option (List D)
  | .list ds => some ds
  | .tuple ds => some ds
  | _ => none
theorem seqOf_some {d : D} {ds : List D} (h : seqOf d = some ds) : d = .list ds ∨ d = .tuple ds := by
  unfold seqOf at h
  split at h
  · cases h; exact .inl rfl
  · cases h; exact .inr rfl
  · cases h
def miZip (m : ML) : ML := fun env => match m env with
  | some ([a, b], e) => (match seqOf a with
    | some as => (match seqOf b with
      | some bs => some (zipD as bs, e)
      | none => none)
    | none => none)
  | _ => none
theorem miZip_some {m : ML} {env : Env} {r : List D × Env} (h : miZip m env = some r) : ∃ a b as bs, m env = some ([a, b], r.2) ∧ (a = .list as ∨ a = .tuple as) ∧ (b = .list bs ∨ b = .tuple bs) ∧ r.1 = zipD as bs := by
  unfold miZip at h
  split at h
  · rename_i a b e h1
    split at h
    · rename_i as ha
      split at h
      · rename_i bs hb
        cases h
        exact ⟨a, b, as, bs, h1, seqOf_some ha, seqOf_some hb, rfl⟩
      · cases h
    · cases h
  · cases h
theorem iter_zip {t1 t2 : Bool} {K : PySem.W.Frag} {G : Hp} {a b : Addr} {vs us : List V} {as bs : List D} (hz : vs.length ≤ sizeLine) (hs : SqG t1 K G a vs) (hr : RpAll K G vs as) (hs2 : SqG t2 K G b us) (hr2 : RpAll K G us bs) : IterOk K (ItzA t1 t2 K a b) (zipD as bs) G where
  len := by
    rw [zipD_len, ← hr.length]
    exact Nat.le_trans (Nat.min_le_left _ _) hz
  go := fun i d H G1 h1 h2 h3 => by
    obtain ⟨x, y, e1, e2, _⟩ := zipD_get h1
    obtain ⟨v, f1, _⟩ := hr.get e1
    obtain ⟨u, f2, _⟩ := hr2.get e2
    exact ⟨vs, us, v, u, hs.sq (h2.trans h3), hs2.sq (h2.trans h3), f1, f2⟩
  yl := fun i d H G1 x H' h1 h2 h3 h4 => by
    obtain ⟨dx, dy, e1, e2, rfl⟩ := zipD_get h1
    obtain ⟨v, f1, r1⟩ := hr.get e1
    obtain ⟨u, f2, r2⟩ := hr2.get e2
    obtain ⟨T, y, y2, ex, hT, eH, hy, hy2⟩ := h4
    have q1 := hy vs (hs.sq (h2.trans h3))
    have q2 := hy2 us (hs2.sq (h2.trans h3))
    rw [f1] at q1
    rw [f2] at q2
    cases q1
    cases q2
    subst ex eH
    have sm := h2.trans (HC.same_upd (h3.free hT) (o := .tup [v, u]))
    exact ⟨_, .new h3 hT, .tup (.inl (.inl upd_same)) (.cons (Rp.mono sm _ _ r1) (.cons (Rp.mono sm _ _ r2) .nil))⟩
  st := fun H G1 h2 h3 => by
    refine ⟨vs, us, hs.sq (h2.trans h3), hs2.sq (h2.trans h3), ?_, ?_, ?_⟩
    · rw [zipD_len, hr.length]; exact Nat.min_le_left _ _
    · rw [zipD_len, hr2.length]; exact Nat.min_le_right _ _
    · rw [zipD_len, hr.length, hr2.length]; omega
theorem piZip {a b : Expr} {m : ML} {p pos tpos : Pos} {elts : List Expr} {kk : Nat} (e : C.K = X.K) (hg : Gl X "zip") (hm : X.mg "zip" = none) (ha : PA X [a, b] (tL C m)) (hp : plainE a = true) (hp2 : plainE b = true) :
    PI X (.Tuple elts kk tpos) (.Call (.Name "zip" p) [a, b] [] pos) (tI C (miZip m)) := by
  refine piUp (wi := tI C (miZip m)) fun σ H R h => ?_
  obtain ⟨env, G, ds, env', hs, hm', hq⟩ := h
  obtain ⟨d1, d2, as, bs, h1, hd1, hd2, h2⟩ := miZip_some hm'
  dsimp only at h1 h2
  subst h2
  have hst : (backTo pos (starEach [b] X.env)).any (·.1) = false := by
    rw [plain_star hp2 [] X.env]
    rfl
  refine ⟨_, fun J H1 => ∃ t1 t2 a b vs us G1, J = ItzA t1 t2 X.K a b ∧ Same H H1 ∧ Same G G1 ∧ SR C env' σ H1 G1 ∧ SqG t1 C.K G1 a vs ∧ RpAll C.K G1 vs as ∧ SqG t2 C.K G1 b us ∧ RpAll C.K G1 us bs, pi_zipA hg hm ha (plain_star hp [b] X.env) hst, ⟨env, G, _, _, hs, h1, fun vs H1 G1 hh hg' s1 rs => ?_⟩, fun pins s J H' I ⟨t1, t2, a, b, vs, us, G1, ej, hh, hg', s1, hs1, hr1, hs2, hr2⟩ => ?_⟩
  · cases rs with
    | cons r1 r2 =>
      cases r2 with
      | cons r2 r3 =>
        cases r3
        obtain ⟨t1, a, ws, rfl, hsq, hr⟩ := seq_rp r1 hd1
        obtain ⟨t2, b, us, rfl, hsq2, hr2⟩ := seq_rp r2 hd2
        exact ⟨t1, t2, a, b, ws, us, rfl, by rw [← e]; exact hsq.sq s1.gh, by rw [← e]; exact hsq2.sq s1.gh, t1, t2, a, b, ws, us, G1, rfl, hh, hg', s1, hsq, hr, hsq2, hr2⟩
  · subst ej
    rw [← e]
    exact hq _ H' G1 hh hg' s1 (iter_zip (sqG_len I (by rw [← e]; exact hs1) s1.gh) hs1 hr1 hs2 hr2)
/-! ### targets -/
abbrev MG := D → Env → Option Env
/-- a target's reading: sl are its slots -/
def tG (C : Cn) (sl : List Nat) (m : MG) : TG := fun v σ H Q => ∃ env G d env', SR C env σ H G ∧ Rp C.K G v d ∧ m d env = some env' ∧
  ∀ σ', SR C env' σ' H G → (∀ vs : List Nat, (∀ i ∈ sl, i ∈ vs) → wipe σ' vs = wipe σ vs) → Q σ' H
def tGs (C : Cn) (sl : List Nat) (m : List D → Env → Option Env) : TGs := fun vs σ H Q => ∃ env G ds env', SR C env σ H G ∧ RpAll C.K G vs ds ∧ m ds env = some env' ∧
  ∀ σ', SR C env' σ' H G → (∀ vs : List Nat, (∀ i ∈ sl, i ∈ vs) → wipe σ' vs = wipe σ vs) → Q σ' H
theorem pgImp {e : Expr} {t t' : TG} (h : PG X e t) (i : ∀ v σ H Q, t' v σ H Q → t v σ H Q) : PG X e t' := ⟨fun pins s σ H v u Q I r q => h.run pins s σ H v u Q I r (i v σ H Q q)⟩
theorem pgsImp {e : List Expr} {t t' : TGs} (h : PGs X e t) (i : ∀ v σ H Q, t' v σ H Q → t v σ H Q) : PGs X e t' := ⟨fun pins s σ H v u Q I r q => h.run pins s σ H v u Q I r (i v σ H Q q)⟩
/-- a shared value goes into a slot -/
theorem SR.setS {env : Env} {σ : St} {H G : Hp} {i : Nat} {v : V} {d : D} (r : SR C env σ H G) (rp : Rp C.K G v d) : SR C (env.set i (some ⟨d, false⟩)) (σ.set i (some v)) H G where
  h0 := r.h0
  g0 := r.g0
  gh := r.gh
  len := by simpa using r.len
  ln := by simpa using r.ln
  sl := fun j e hj => by
    rcases get_set hj with ⟨rfl, ee⟩ | ⟨ne, ee⟩
    · cases ee
      have hi : i < env.length := by
        have := (List.getElem?_eq_some_iff.mp hj).1
        simpa using this
      exact ⟨v, by rw [List.getElem?_set_self (by rw [r.ln]; exact hi)], rp⟩
    · obtain ⟨w, h1, h2⟩ := r.sl j e ee
      exact ⟨w, by rw [List.getElem?_set_ne ne]; exact h1, h2⟩
  ow := fun j e hj => by
    rcases get_set hj with ⟨rfl, ee⟩ | ⟨ne, ee⟩
    · cases ee
    · obtain ⟨p, o, h1, h2⟩ := r.ow j e ee
      exact ⟨p, o, by rw [List.getElem?_set_ne ne]; exact h1, h2⟩
  dj := fun j l e f p ne hj hl hp => by
    rcases get_set hj with ⟨_, ee⟩ | ⟨n1, e1⟩
    · cases ee
    · rcases get_set hl with ⟨_, ee⟩ | ⟨n2, e2⟩
      · cases ee
      · rw [List.getElem?_set_ne n1] at hp
        rw [List.getElem?_set_ne n2]
        exact r.dj j l e f p ne e1 e2 hp
theorem wipe_set {σ : St} {i : Nat} {x : Option V} : ∀ {vs : List Nat}, i ∈ vs → wipe (σ.set i x) vs = wipe σ vs
  | [], h => by cases h
  | v :: vs, h => by
    unfold wipe
    by_cases hi : i ∈ vs
    · rw [wipe_set hi]
    · have ev : i = v := by
        rcases List.mem_cons.mp h with e | e
        · exact e
        · exact absurd e hi
      subst ev
      have : ∀ (ws : List Nat), i ∉ ws → wipe (σ.set i x) ws = (wipe σ ws).set i x := by
        intro ws
        induction ws with
        | nil => intro _; rfl
        | cons w ws ih =>
          intro hn
          have h1 : i ≠ w := fun e => hn (by simp [e])
          have h2 : i ∉ ws := fun e => hn (List.mem_cons_of_mem _ e)
          unfold wipe
          rw [ih h2, List.set_comm _ _ h1]
      rw [this vs hi, List.set_set]
def gVar (i : Nat) : MG := fun d env => some (env.set i (some ⟨d, false⟩))
theorem pgVar {i : Nat} {x : Str} {pos : Pos} (hN : X.N.Nodup) (hi : X.N[i]? = some x) (hx : Loc X.env.scope x) (hf : X.fn x = true ∨ X.env.scope.names.lookup x = some .local) : PG X (.Name x pos) (tG C [i] (gVar i)) := by
  refine pgImp (pg_name hN hi hx hf) fun v σ H Q q => ?_
  obtain ⟨env, G, d, env', hs, rp, hm, hq⟩ := q
  cases hm
  exact hq _ (hs.setS rp) fun vs h => wipe_set (h i (by simp))
def gsNil : List D → Env → Option Env
  | [], env => some env
  | _, _ => none
def gsCons (m : MG) (ms : List D → Env → Option Env) : List D → Env → Option Env
  | d :: ds, env => (match m d env with
    | some e => ms ds e
    | none => none)
  | _, _ => none
theorem pgsNil : PGs X [] (tGs C [] gsNil) := pgsImp pgs_nil fun vs σ H Q q => by
  obtain ⟨env, G, ds, env', hs, rs, hm, hq⟩ := q
  cases ds with
  | cons _ _ => cases hm
  | nil =>
    cases hm
    cases rs
    exact ⟨rfl, hq σ hs fun _ _ => rfl⟩
theorem pgsCons {e : Expr} {es : List Expr} {sl sl' : List Nat} {m : MG} {ms : List D → Env → Option Env} (h : PG X e (tG C sl m)) (t : PGs X es (tGs C sl' ms)) (ha : assignEach (e :: es) X.env = (false, assign e X.env) :: assignEach es X.env) : PGs X (e :: es) (tGs C (sl ++ sl') (gsCons m ms)) := by
  refine pgsImp (pgs_cons h t (by rw [ha]; rfl)) fun vs σ H Q q => ?_
  obtain ⟨env, G, ds, env', hs, rs, hm, hq⟩ := q
  cases ds with
  | nil => cases hm
  | cons d ds =>
    simp only [gsCons] at hm
    split at hm
    · rename_i e1 h1
      cases rs with
      | cons r1 r2 =>
        refine ⟨_, _, rfl, env, G, d, e1, hs, r1, h1, fun σ1 s1 w1 => ?_⟩
        refine ⟨e1, G, ds, env', s1, r2, hm, fun σ2 s2 w2 => hq σ2 s2 fun vs hv => ?_⟩
        rw [w2 vs fun i hi => hv i (List.mem_append_right _ hi), w1 vs fun i hi => hv i (List.mem_append_left _ hi)]
    · cases hm
/-- (a, b, ..) = a tuple -/
def gTupD (n : Nat) (ms : List D → Env → Option Env) : MG := fun d env => match d with
  | .tuple ds => if ds.length = n then ms ds env else none
  | _ => none
theorem pgTup {es : List Expr} {k n : Nat} {pos : Pos} {sl : List Nat} {ms : List D → Env → Option Env} (e : C.K = X.K) (hc : X.calm = true) (h : PGs X es (tGs C sl ms)) (hn : (assignEach es X.env).length = n) (hst : (assignEach es X.env).findIdx? (·.1) = none) :
    PG X (.Tuple es k pos) (tG C sl (gTupD n ms)) := by
  refine pgImp (pg_tup hc h hn hst) fun v σ H Q q => ?_
  obtain ⟨env, G, d, env', hs, rp, hm, hq⟩ := q
  unfold gTupD at hm
  split at hm
  · rename_i ds
    split at hm
    · rename_i hl
      cases rp with
      | tup hd ha =>
        refine ⟨_, _, rfl, by rw [← e]; exact sqT_same hs.gh hd, by rw [ha.length]; exact hl, ?_⟩
        exact ⟨env, G, ds, env', hs, ha, hm, hq⟩
    · cases hm
  · cases hm
/-! ### comprehensions -/
/-- some slots are shared: those in js -/
def shIdx : List Nat → Env → Env
  | [], env => env
  | j :: js, env => shIdx js (match env[j]? with
    | some (some ⟨d, true⟩) => env.set j (some ⟨d, false⟩)
    | _ => env)
theorem SR.shIdx {σ : St} {H : Hp} : ∀ (js : List Nat) {env : Env} {G : Hp}, SR C env σ H G → ∃ G', Same G G' ∧ SR C (shIdx js env) σ H G'
  | [], env, G, r => ⟨G, Same.refl _, r⟩
  | j :: js, env, G, r => by
    unfold HC.shIdx
    split
    · rename_i d e
      obtain ⟨G1, v, g1, s1, _, _⟩ := r.unown e
      obtain ⟨G2, g2, s2⟩ := SR.shIdx js s1
      exact ⟨G2, g1.trans g2, s2⟩
    · exact SR.shIdx js r
/-- the slots that a block sees: shared ones, without its own -/
def hideOwn (env : Env) : Env := env.map fun s => match s with
  | some ⟨_, true⟩ => none
  | s => s
def wipeE (env : Env) : List Nat → Env
  | [] => env
  | v :: vs => (wipeE env vs).set v none
theorem wipeE_len (env : Env) : ∀ vs : List Nat, (wipeE env vs).length = env.length
  | [] => rfl
  | v :: vs => by unfold wipeE; rw [List.length_set, wipeE_len env vs]
theorem wipeE_some {env : Env} {i : Nat} {x : Sl} : ∀ {vs : List Nat}, (wipeE env vs)[i]? = some (some x) → env[i]? = some (some x) ∧ i ∉ vs
  | [], h => ⟨h, by simp⟩
  | v :: vs, h => by
    unfold wipeE at h
    rcases get_set h with ⟨_, e⟩ | ⟨ne, e⟩
    · cases e
    · obtain ⟨h1, h2⟩ := wipeE_some e
      exact ⟨h1, by simp only [List.mem_cons, not_or]; exact ⟨fun z => ne z.symm, h2⟩⟩
theorem hide_some {env : Env} {i : Nat} {x : Sl} (h : (hideOwn env)[i]? = some (some x)) : env[i]? = some (some x) ∧ x.own = false := by
  unfold hideOwn at h
  rw [List.getElem?_map] at h
  cases e : env[i]? with
  | none => rw [e] at h; cases h
  | some o =>
    rw [e] at h
    cases o with
    | none => cases h
    | some s =>
      obtain ⟨d, own⟩ := s
      cases own with
      | true => cases h
      | false => cases h; exact ⟨rfl, rfl⟩
def inner (vs : List Nat) (env : Env) : Env := wipeE (hideOwn env) vs
/-- within a block, at a turn -/
theorem SR.inner {env : Env} {σ : St} {H G : Hp} (r : SR C env σ H G) (vs : List Nat) : SR { C with H0 := H, G0 := G } (inner vs env) (wipe σ vs) H G where
  h0 := Same.refl _
  g0 := fun _ _ => rfl
  gh := r.gh
  len := by
    unfold HC.inner hideOwn
    rw [wipeE_len, List.length_map]
    exact r.len
  ln := by
    unfold HC.inner hideOwn
    rw [wipeE_len, List.length_map, wipe_length]
    exact r.ln
  sl := fun i d e => by
    obtain ⟨h1, h2⟩ := wipeE_some e
    obtain ⟨h3, _⟩ := hide_some h1
    obtain ⟨v, e1, r1⟩ := r.sl i d h3
    exact ⟨v, by rw [wipe_out h2]; exact e1, r1⟩
  ow := fun i d e => by
    obtain ⟨h1, _⟩ := wipeE_some e
    obtain ⟨_, h3⟩ := hide_some h1
    cases h3
  dj := fun i j d e p ne h1 _ => by
    obtain ⟨h1, _⟩ := wipeE_some h1
    obtain ⟨_, h3⟩ := hide_some h1
    cases h3
/-- back outside: the frozen part has grown by new objects alone -/
theorem SR.grown {env env' : Env} {σ σ' : St} {H G H' G' : Hp} (r' : SR { C with H0 := H, G0 := G } env' σ' H' G') (gh : Same G H) : Step H G H' G' where
  hh := r'.h0
  gg := fun a o e => by
    rw [r'.g0 a (by show H a ≠ none; rw [gh a o e]; exact fun z => nomatch z)]
    exact e
  gh := r'.gh
  nw := r'.g0
theorem SR.updD {env : Env} {σ : St} {H G : Hp} {p : Addr} {o : HO} (r : SR C env σ H G) (h0 : C.H0 p = none) (hg : G p = none) (hn : ∀ (i : Nat) e, env[i]? = some (some ⟨e, true⟩) → σ[i]? ≠ some (some (.ref p))) : SR C env σ (upd H p o) G where
  h0 := fun a u e => by rw [upd_ne (ne_of_none e h0)]; exact r.h0 a u e
  g0 := r.g0
  gh := fun a u e => by rw [upd_ne (ne_of_none e hg)]; exact r.gh a u e
  len := r.len
  ln := r.ln
  sl := r.sl
  ow := fun i d e => by
    obtain ⟨q, u, h1, h2, h3, h4, h5⟩ := r.ow i d e
    have ne : q ≠ p := fun z => hn i d e (by rw [h1, z])
    exact ⟨q, u, h1, h2, h3, by rw [upd_ne ne]; exact h4, h5⟩
  dj := r.dj
theorem wipe_wipe (σ : St) (vs : List Nat) : wipe (wipe σ vs) vs = wipe σ vs := by
  apply List.ext_getElem?
  intro j
  by_cases hj : j ∈ vs
  · have f : ∀ (τ : St), (wipe τ vs)[j]? = if j < τ.length then some none else none := by
      intro τ
      have hl := wipe_length τ vs
      cases q : (wipe τ vs)[j]? with
      | none =>
        have := List.getElem?_eq_none_iff.mp q
        rw [if_neg (by omega)]
      | some o =>
        have hjl := (List.getElem?_eq_some_iff.mp q).1
        rw [if_pos (by omega)]
        cases o with
        | none => rfl
        | some w => exact absurd hj (wipe_some q).2
    rw [f, f, wipe_length]
  · rw [wipe_out hj]
/-- one clause, all its turns -/
def lcLoop (inn : Env) (asg : MG) (tt : MT) (te : MV) : List D → Option (List D)
  | [] => some []
  | d :: ds => (match asg d inn with
    | some e1 => (match tt e1 with
      | some (true, e2) => (match te e2 with
        | some (y, _, _) => (match lcLoop inn asg tt te ds with
          | some ys => some (y :: ys)
          | none => none)
        | none => none)
      | some (false, _) => lcLoop inn asg tt te ds
      | none => none)
    | none => none)
def mLc (js vs : List Nat) (mi : ML) (asg : MG) (tt : MT) (te : MV) : MV := fun env => match mi env with
  | some (ds, e) => (match lcLoop (inner vs (shIdx js e)) asg tt te ds with
    | some ys => some (.list ys, .fr, shIdx js e)
    | none => none)
  | none => none
theorem lcLoop_len {inn : Env} {asg : MG} {tt : MT} {te : MV} : ∀ {ds ys : List D}, lcLoop inn asg tt te ds = some ys → ys.length ≤ ds.length
  | [], ys, h => by cases h; exact Nat.le_refl _
  | d :: ds, ys, h => by
    simp only [lcLoop] at h
    split at h
    · split at h
      · split at h
        · split at h
          · rename_i ys' h'
            cases h
            have := lcLoop_len h'
            simp only [List.length_cons]
            omega
          · cases h
        · cases h
      · have := lcLoop_len h
        simp only [List.length_cons]
        omega
      · cases h
    · cases h
theorem RpAll.snoc {K : PySem.W.Frag} {H : Hp} {vs : List V} {ds : List D} {v : V} {d : D} (h : RpAll K H vs ds) (r : Rp K H v d) : RpAll K H (vs ++ [v]) (ds ++ [d]) := h.append (.cons r .nil)
theorem tE_lc {js vs sl : List Nat} {mi : ML} {asg : MG} {tt : MT} {te : MV} {wi : TI} {g : TG} {t2 : TT} {t3 : TE} (hsl : ∀ i ∈ sl, i ∈ vs)
    (hi : ∀ σ H R, tI C mi σ H R → wi σ H R) (hg : ∀ (C' : Cn), C'.K = C.K → C'.N = C.N → ∀ v σ H Q, tG C' sl asg v σ H Q → g v σ H Q)
    (ht : ∀ (C' : Cn), C'.K = C.K → C'.N = C.N → ∀ σ H Q, tT C' tt σ H Q → t2 σ H Q) (he : ∀ (C' : Cn), C'.K = C.K → C'.N = C.N → ∀ σ H Q, tE C' te σ H Q → t3 σ H Q)
    {σ : St} {H : Hp} {Q : VK} (h : tE C (mLc js vs mi asg tt te) σ H Q) : tLc wi g t2 t3 vs σ H Q := by
  obtain ⟨env, G, d, k, env', hs, hm, hq⟩ := h
  unfold mLc at hm
  split at hm
  · rename_i ds e1 h1
    split at hm
    · rename_i ys h2
      cases hm
      refine hi σ H _ ⟨env, G, ds, e1, hs, h1, fun J H1 G1 hh hg1 s1 ok => ?_⟩
      obtain ⟨G2, g2, s2⟩ := SR.shIdx js s1
      have ok2 := ok.mono g2
      intro D hD
      have nD : C.H0 D = none := by
        cases q : C.H0 D with
        | none => rfl
        | some u => rw [s2.h0 _ _ q] at hD; cases hD
      have oD : ∀ (i : Nat) e, (shIdx js e1)[i]? = some (some ⟨e, true⟩) → σ[i]? ≠ some (some (.ref D)) := fun i e he hz => by
        obtain ⟨p, o, a1, _, _, a4, _⟩ := s2.ow i e he
        rw [hz] at a1; cases a1; rw [hD] at a4; cases a4
      refine ⟨fun i m H' => ∃ G' acc zs rest, SR C (shIdx js e1) σ H' G' ∧ Same G2 G' ∧ G' D = none ∧ H' D = some (.lst acc) ∧ RpAll C.K G' acc zs ∧ i ≤ ds.length ∧ m = ds.length - i ∧ zs.length ≤ i ∧ lcLoop (inner vs (shIdx js e1)) asg tt te (ds.drop i) = some rest ∧ zs ++ rest = ys ∧
          (∀ a, a ≠ D → H1 a ≠ none → H' a = H1 a), ⟨ds.length, G2, [], [], ys, ?_, Same.refl _, s2.gh.free hD, upd_same, .nil, Nat.zero_le _, rfl, Nat.le_refl _, h2, rfl, fun a na _ => upd_ne na⟩, fun i m H' hW => ?_⟩
      · exact s2.updD nD (s2.gh.free hD) oD
      · obtain ⟨G', acc, zs, rest, sW, gW, dG, dH, rA, hi', hm', lz, hr, hz, hk⟩ := hW
        by_cases hlt : i < ds.length
        · right
          have hd : ds[i]? = some ds[i] := List.getElem?_eq_getElem hlt
          refine ⟨ok2.go i _ H' G' hd gW sW.gh, ?_⟩
          rw [List.drop_eq_getElem_cons hlt] at hr
          simp only [lcLoop] at hr
          refine ⟨fun H5 => ∃ G5 acc5 zs5 rest5, SR C (shIdx js e1) σ H5 G5 ∧ Same G2 G5 ∧ G5 D = none ∧ H5 D = some (.lst acc5) ∧ RpAll C.K G5 acc5 zs5 ∧ zs5.length ≤ i + 1 ∧ lcLoop (inner vs (shIdx js e1)) asg tt te (ds.drop (i + 1)) = some rest5 ∧ zs5 ++ rest5 = ys ∧ (∀ a, a ≠ D → H1 a ≠ none → H5 a = H1 a),
            fun H5 ⟨G5, acc5, zs5, rest5, a1, a2, a3, a4, a5, a6, a7, a8, a9⟩ => ⟨ds.length - (i + 1), by omega, G5, acc5, zs5, rest5, a1, a2, a3, a4, a5, hlt, rfl, a6, a7, a8, a9⟩, fun x H3 hy => ?_⟩
          obtain ⟨G3, st3, rx⟩ := ok2.yl i _ H' G' x H3 hd gW sW.gh hy
          have sW3 := sW.step st3
          have dH3 : H3 D = some (.lst acc) := st3.hh _ _ dH
          have dG3 : G3 D = none := by rw [st3.nw D (by rw [dH]; exact fun z => nomatch z)]; exact dG
          have hk3 : ∀ a, a ≠ D → H1 a ≠ none → H3 a = H1 a := fun a na h1a => by
            cases q : H1 a with
            | none => exact absurd q h1a
            | some u => exact st3.hh a u (by rw [hk a na h1a]; exact q)
          split at hr
          · rename_i en1 hA
            refine hg { C with H0 := H3, G0 := G3 } rfl rfl _ _ _ _ ⟨_, G3, _, en1, sW3.inner vs, rx, hA, fun σ2 sT wT => ⟨(wT vs hsl).trans (wipe_wipe σ vs), ?_⟩⟩
            -- the test
            cases hT : tt en1 with
            | none => rw [hT] at hr; cases hr
            | some q =>
              obtain ⟨b, en2⟩ := q
              rw [hT] at hr
              refine ht { C with H0 := H3, G0 := G3 } rfl rfl _ _ _ ⟨en1, G3, b, en2, sT, hT, fun H6 G6 hh6 gg6 s6 => ?_⟩
              cases b with
              | false =>
                dsimp only at hr ⊢
                rw [if_neg (by decide)]
                have st6 : Step H3 G3 H6 G6 := SR.grown (C := C) (env := en2) (σ := σ2) s6 sW3.gh
                refine ⟨G6, acc, zs, rest, sW3.step st6, gW.trans (st3.gg.trans st6.gg), ?_, st6.hh _ _ dH3, RpAll.mono (st3.gg.trans st6.gg) _ _ rA, by omega, hr, hz, fun a na h1a => ?_⟩
                · rw [st6.nw D (by rw [dH3]; exact fun z => nomatch z)]; exact dG3
                · cases q : H1 a with
                  | none => exact absurd q h1a
                  | some u => exact st6.hh a u (by rw [hk3 a na h1a]; exact q)
              | true =>
                dsimp only at hr ⊢
                rw [if_pos rfl]
                cases hE : te en2 with
                | none => rw [hE] at hr; cases hr
                | some q =>
                  obtain ⟨y, ky, en3⟩ := q
                  rw [hE] at hr
                  dsimp only at hr
                  split at hr
                  · rename_i rest' hR
                    cases hr
                    refine he { C with H0 := H3, G0 := G3 } rfl rfl _ _ _ ⟨en2, G6, y, ky, en3, s6, hE, fun v H7 G7 hh7 gg7 s7 hv => ?_⟩
                    obtain ⟨G8, g8, s8, ry⟩ := s7.useS hv
                    have st8 : Step H3 G3 H7 G8 := SR.grown (C := C) (env := en2) (σ := σ2) s8 sW3.gh
                    have dG8 : G8 D = none := by
                      rw [st8.nw D (by rw [dH3]; exact fun z => nomatch z)]; exact dG3
                    have lacc := rA.length
                    have lok := ok.len
                    refine ⟨acc, st8.hh _ _ dH3, by omega, G8, acc ++ [v], zs ++ [y], rest', (sW3.step st8).updD nD dG8 oD, gW.trans (st3.gg.trans st8.gg), dG8, upd_same, ?_, ?_, hR, by rw [← hz]; simp, fun a na h1a => ?_⟩
                    · exact (RpAll.mono (st3.gg.trans st8.gg) _ _ rA).snoc ry
                    · rw [List.length_append, List.length_singleton]; omega
                    · rw [upd_ne na]
                      cases q : H1 a with
                      | none => exact absurd q h1a
                      | some u => exact st8.hh a u (by rw [hk3 a na h1a]; exact q)
                  · cases hr
          · cases hr
        · left
          have ei : i = ds.length := by omega
          subst ei
          rw [List.drop_length] at hr
          cases hr
          rw [List.append_nil] at hz
          subst hz
          refine ⟨ok2.st H' G' gW sW.gh, hq (.ref D) H' G' (fun a u e => ?_) (hg1.trans (g2.trans gW)) sW ⟨D, _, rfl, nD, dG, dH, .inl ⟨acc, zs, rfl, rfl, rA⟩, oD⟩⟩
          have e1' := hh a u e
          have na : a ≠ D := ne_of_none e1' hD
          rw [hk a na (by rw [e1']; exact fun z => nomatch z)]
          exact e1'
    · cases hm
  · cases hm
end
end HC
set_option Elab.async false
set_option linter.all false
set_option maxRecDepth 100000
set_option autoImplicit false
/-! HC, part G: statements. -/
namespace HC
open PySem PySem.Spec PyProof.Rows L2
inductive Fl where
  | nx (e : Env)
  | rt (d : D) (fr : Bool)
  | bk (e : Env)
  | ct (e : Env)
abbrev MS := Env → Option Fl
/-- what a def hands back -/
def RetOk (C : Cn) (Q : VK) (d : D) (fr : Bool) : Prop := ∀ v H' G', Same C.H0 H' → (∀ a, C.H0 a ≠ none → G' a = C.G0 a) → Same G' H' → ResV C.K C.H0 G' H' fr v d → Q v H'
def FlOk (C : Cn) (Dn : Ends) (G : Hp) : Fl → Prop
  | .nx e => ∀ σ' H' G', Same G G' → SR C e σ' H' G' → Dn.nx σ' H'
  | .bk e => ∀ σ' H' G', Same G G' → SR C e σ' H' G' → Dn.bk σ' H'
  | .ct e => ∀ σ' H' G', Same G G' → SR C e σ' H' G' → Dn.ct σ' H'
  | .rt d fr => RetOk C Dn.rt d fr
def tS (C : Cn) (m : MS) : TS := fun Dn σ H => ∃ env G fl, SR C env σ H G ∧ m env = some fl ∧ FlOk C Dn G fl
theorem FlOk.mono {C : Cn} {Dn : Ends} {G G' : Hp} (e : Same G G') : ∀ {fl : Fl}, FlOk C Dn G fl → FlOk C Dn G' fl
  | .nx _, h => fun σ' H' G1 g s => h σ' H' G1 (e.trans g) s
  | .bk _, h => fun σ' H' G1 g s => h σ' H' G1 (e.trans g) s
  | .ct _, h => fun σ' H' G1 g s => h σ' H' G1 (e.trans g) s
  | .rt _ _, h => h
section
variable {X : Cx} {C : Cn}
/-! ### blocks -/
def mSkip : MS := fun env => some (.nx env)
def mSeq (a b : MS) : MS := fun env => match a env with
  | some (.nx e) => b e
  | r => r
theorem pssNil : PSs X [] (tS C mSkip) := pssImp pss_nil fun Dn σ H q => by
  obtain ⟨env, G, fl, hs, hm, hq⟩ := q
  cases hm
  exact hq σ H G (Same.refl _) hs
theorem pssCons {st : Stmt} {rest : List Stmt} {a b : MS} (h : PS X st (tS C a)) (t : PSs X rest (tS C b)) : PSs X (st :: rest) (tS C (mSeq a b)) := by
  refine pssImp (pss_cons h t) fun Dn σ H q => ?_
  obtain ⟨env, G, fl, hs, hm, hq⟩ := q
  unfold mSeq at hm
  split at hm
  · rename_i e h1
    exact ⟨env, G, _, hs, h1, fun σ' H' G' g s => ⟨e, G', fl, s, hm, hq.mono g⟩⟩
  · rename_i r h1
    refine ⟨env, G, fl, hs, hm, ?_⟩
    cases fl with
    | nx e => exact absurd hm (fun z => h1 e z)
    | bk e => exact hq
    | ct e => exact hq
    | rt d fr => exact hq
theorem psPass {pos : Pos} : PS X (.Pass pos) (tS C mSkip) := psImp ps_pass fun Dn σ H q => by
  obtain ⟨env, G, fl, hs, hm, hq⟩ := q
  cases hm
  exact hq σ H G (Same.refl _) hs
def mIfS (c : MT) (a b : MS) : MS := fun env => match c env with
  | some (true, e) => a e
  | some (false, e) => b e
  | none => none
theorem psIf {c : Expr} {a b : List Stmt} {mc : MT} {ma mb : MS} {pos : Pos} (hc : PT X c (tT C mc)) (ha : PSs X a (tS C ma)) (hb : PSs X b (tS C mb)) : PS X (.If c a b pos) (tS C (mIfS mc ma mb)) := by
  refine psImp (ps_if hc ha hb) fun Dn σ H q => ?_
  obtain ⟨env, G, fl, hs, hm, hq⟩ := q
  unfold mIfS at hm
  split at hm
  · rename_i e1 h1
    refine ⟨env, G, _, e1, hs, h1, fun H' G' hh hg s1 => ?_⟩
    dsimp only
    rw [if_pos rfl]
    exact ⟨e1, G', fl, s1, hm, hq.mono hg⟩
  · rename_i e1 h1
    refine ⟨env, G, _, e1, hs, h1, fun H' G' hh hg s1 => ?_⟩
    dsimp only
    rw [if_neg (by decide)]
    exact ⟨e1, G', fl, s1, hm, hq.mono hg⟩
  · cases hm
/-! ### return -/
theorem RetOk.of {Q : VK} {d : D} {fr : Bool} {env : Env} {σ : St} {H G : Hp} {v : V} (h : RetOk C Q d fr) (r : SR C env σ H G) (rv : ResV C.K C.H0 G H fr v d) : Q v H := h v H G r.h0 r.g0 r.gh rv
/-- a kind as it is handed back: a new object, or one's own -/
def frOf : Kd → Bool
  | .sh => false
  | .fr => true
  | .bw _ => true
def mRet (m : MV) : MS := fun env => match m env with
  | some (d, k, _) => some (.rt d (frOf k))
  | none => none
theorem VR.res {env : Env} {σ : St} {H G : Hp} {k : Kd} {v : V} {d : D} (r : SR C env σ H G) (h : VR C k v d env σ H G) : ResV C.K C.H0 G H (frOf k) v d := by
  cases k with
  | sh => exact h
  | fr =>
    obtain ⟨p, o, e, h0, hg, hh, ho, _⟩ := h
    show ∃ p o, _
    exact ⟨p, o, e, h0, hg, hh, ho⟩
  | bw i =>
    obtain ⟨h1, h2⟩ := h
    obtain ⟨p, o, e1, e2, e3, e4, e5⟩ := r.ow i d h1
    rw [h2] at e1
    cases e1
    show ∃ p o, _
    exact ⟨p, o, rfl, e2, e3, e4, e5⟩
theorem psRet {e : Expr} {m : MV} {pos : Pos} (he : PE X e (tE C m)) : PS X (.Return (some e) pos) (tS C (mRet m)) := by
  refine psImp (ps_ret he) fun Dn σ H q => ?_
  obtain ⟨env, G, fl, hs, hm, hq⟩ := q
  unfold mRet at hm
  split at hm
  · rename_i d k e1 h1
    cases hm
    refine ⟨env, G, d, k, e1, hs, h1, fun v H' G' hh hg s1 hv => ?_⟩
    exact RetOk.of (C := C) hq s1 (VR.res s1 hv)
  · cases hm
/-! ### name = e -/
/-- an own object goes into a slot -/
theorem SR.setO {env : Env} {σ : St} {H G : Hp} {i : Nat} {p : Addr} {o : HO} {d : D} (r : SR C env σ H G) (h0 : C.H0 p = none) (hg : G p = none) (hh : H p = some o) (ho : OwnO C.K G o d)
    (hn : ∀ (j : Nat) e, env[j]? = some (some ⟨e, true⟩) → σ[j]? ≠ some (some (.ref p))) : SR C (env.set i (some ⟨d, true⟩)) (σ.set i (some (.ref p))) H G where
  h0 := r.h0
  g0 := r.g0
  gh := r.gh
  len := by simpa using r.len
  ln := by simpa using r.ln
  sl := fun j e hj => by
    rcases get_set hj with ⟨rfl, ee⟩ | ⟨ne, ee⟩
    · cases ee
    · obtain ⟨w, h1, h2⟩ := r.sl j e ee
      exact ⟨w, by rw [List.getElem?_set_ne ne]; exact h1, h2⟩
  ow := fun j e hj => by
    rcases get_set hj with ⟨rfl, ee⟩ | ⟨ne, ee⟩
    · cases ee
      have hi : i < env.length := by
        have := (List.getElem?_eq_some_iff.mp hj).1
        simpa using this
      exact ⟨p, o, by rw [List.getElem?_set_self (by rw [r.ln]; exact hi)], h0, hg, hh, ho⟩
    · obtain ⟨q, u, h1, h2⟩ := r.ow j e ee
      exact ⟨q, u, by rw [List.getElem?_set_ne ne]; exact h1, h2⟩
  dj := fun j l e f q ne hj hl hp => by
    rcases get_set hj with ⟨rfl, ee⟩ | ⟨n1, e1⟩
    · cases ee
      have hi : i < env.length := by
        have := (List.getElem?_eq_some_iff.mp hj).1
        simpa using this
      rw [List.getElem?_set_self (by rw [r.ln]; exact hi)] at hp
      cases hp
      rcases get_set hl with ⟨z, _⟩ | ⟨n2, e2⟩
      · exact absurd z ne
      · rw [List.getElem?_set_ne n2]
        exact hn l f e2
    · rw [List.getElem?_set_ne n1] at hp
      rcases get_set hl with ⟨rfl, ee⟩ | ⟨n2, e2⟩
      · cases ee
        have hi : i < env.length := by
          have := (List.getElem?_eq_some_iff.mp hl).1
          simpa using this
        rw [List.getElem?_set_self (by rw [r.ln]; exact hi)]
        intro z
        cases z
        exact hn j e e1 hp
      · rw [List.getElem?_set_ne n2]
        exact r.dj j l e f q ne e1 e2 hp
def mSet (i : Nat) (m : MV) : MS := fun env => match m env with
  | some (d, k, e) => (match k with
    | .fr => some (.nx (e.set i (some ⟨d, true⟩)))
    | _ => some (.nx ((shEnv k d e).set i (some ⟨d, false⟩))))
  | none => none
theorem tS_set {i : Nat} {m : MV} {Dn : Ends} {σ : St} {H : Hp} (h : tS C (mSet i m) Dn σ H) : tAsg (tE C m) (gName i) Dn σ H := by
  obtain ⟨env, G, fl, hs, hm, hq⟩ := h
  unfold mSet at hm
  split at hm
  · rename_i d k e1 h1
    refine ⟨env, G, d, k, e1, hs, h1, fun v H' G' hh hg s1 hv => ?_⟩
    cases k with
    | fr =>
      cases hm
      obtain ⟨p, o, rfl, a0, ag, ah, ao, an⟩ := hv
      exact hq _ H' G' hg (s1.setO a0 ag ah ao an)
    | sh =>
      cases hm
      exact hq _ H' G' hg (s1.setS hv)
    | bw j =>
      cases hm
      obtain ⟨G2, g2, s2, rp⟩ := s1.useS hv
      exact hq _ H' G2 (hg.trans g2) (s2.setS rp)
  · cases hm
/-- a comprehension that goes to a name at once -/
def isLc : Expr → Bool
  | .ListComp _ _ _ _ => true
  | .SetComp _ _ _ _ => true
  | .DictComp _ _ _ _ _ => true
  | _ => false
theorem swaps_no {e : Expr} (h : isLc e = false) (t : Option Expr) (l : Nat) (env : PySem.Env) : swapsWith e t l env = pure false := by
  cases e <;> first | rfl | cases h
theorem psSet {i : Nat} {x : Str} {e : Expr} {m : MV} {pos pos' : Pos} (hN : X.N.Nodup) (hi : X.N[i]? = some x) (hx : Loc X.env.scope x) (hf : X.fn x = true ∨ X.env.scope.names.lookup x = some .local) (he : PE X e (tE C m)) (hl : isLc e = false) :
    PS X (.Assign [.Name x pos'] e pos) (tS C (mSet i m)) :=
  psImp (ps_set hN hi hx he (swaps_no hl _ _ _) hf) fun Dn σ H q => tS_set q
/-! ### (a, b) = e -/
theorem swaps_tup {e : Expr} {es : List Expr} {k : Nat} {p : Pos} (l : Nat) (env : PySem.Env) : swapsWithSole [.Tuple es k p] e l env = pure false := by
  show swapsWith e (some (.Tuple es k p)) l env = pure false
  cases e <;> rfl
def mAsg (m : MV) (asg : MG) : MS := fun env => match m env with
  | some (d, k, e) => (match asg d (shEnv k d e) with
    | some e' => some (.nx e')
    | none => none)
  | none => none
theorem tS_asg {sl : List Nat} {m : MV} {asg : MG} {Dn : Ends} {σ : St} {H : Hp} (h : tS C (mAsg m asg) Dn σ H) : tAsg (tE C m) (tG C sl asg) Dn σ H := by
  obtain ⟨env, G, fl, hs, hm, hq⟩ := h
  unfold mAsg at hm
  split at hm
  · rename_i d k e1 h1
    split at hm
    · rename_i e' h2
      cases hm
      refine ⟨env, G, d, k, e1, hs, h1, fun v H' G' hh hg s1 hv => ?_⟩
      obtain ⟨G2, g2, s2, rp⟩ := s1.useS hv
      exact ⟨_, G2, d, e', s2, rp, h2, fun σ' s3 _ => hq σ' H' G2 (hg.trans g2) s3⟩
    · cases hm
  · cases hm
/-- what is assigned is no written tuple -/
def notTup : Expr → Bool
  | .Tuple _ _ _ => false
  | _ => true
theorem swapped_no {e : Expr} (h : notTup e = true) (t : Expr) (env : PySem.Env) : swappedStores [t] e env = pure none := by
  cases e <;> first | (cases t <;> rfl) | (cases h; done)
theorem psTup {es : List Expr} {k : Nat} {e : Expr} {sl : List Nat} {m : MV} {asg : MG} {p pos : Pos} (he : PE X e (tE C m)) (hg : PG X (.Tuple es k p) (tG C sl asg)) (ht : notTup e = true) : PS X (.Assign [.Tuple es k p] e pos) (tS C (mAsg m asg)) :=
  psImp (ps_asg he hg (swaps_tup _ _) (swapped_no ht _ _)) fun Dn σ H q => tS_asg q
/-! ### for -/
def forLoop (asg : MG) (body : MS) : List D → MS
  | [] => fun env => some (.nx env)
  | d :: ds => fun env => match asg d env with
    | some e1 => (match body e1 with
      | some (.nx e2) => forLoop asg body ds e2
      | some (.ct e2) => forLoop asg body ds e2
      | some (.bk e2) => some (.nx e2)
      | some (.rt d fr) => some (.rt d fr)
      | none => none)
    | none => none
def mFor (mi : ML) (asg : MG) (body : MS) : MS := fun env => match mi env with
  | some (ds, e) => forLoop asg body ds e
  | none => none
theorem psFor {tg iter : Expr} {body : List Stmt} {mi : ML} {sl : List Nat} {asg : MG} {mb : MS} {pos : Pos} (hp : PassesOwn (model X.prog X.w) X.A X.env X.xe) (hc : X.calm = true) (hi : PI X tg iter (tI C mi)) (hg : PG X tg (tG C sl asg)) (hb : PSs X body (tS C mb)) (hs : plainE iter = true) :
    PS X (.For tg iter body [] pos) (tS C (mFor mi asg mb)) := by
  refine psImp (ps_for hp hc hi hg hb (plain_fold hs X.env)) fun Dn σ H q => ?_
  obtain ⟨env, G, fl, hs, hm, hq⟩ := q
  unfold mFor at hm
  split at hm
  · rename_i ds e1 h1
    refine ⟨env, G, ds, e1, hs, h1, fun J H1 G1 hh hg1 s1 ok => ?_⟩
    refine ⟨fun i m σ' H' => ∃ en G', SR C en σ' H' G' ∧ Same G1 G' ∧ i ≤ ds.length ∧ m = ds.length - i ∧ forLoop asg mb (ds.drop i) en = some fl, ⟨ds.length, e1, G1, s1, Same.refl _, Nat.zero_le _, rfl, hm⟩, fun i m σ' H' hW => ?_⟩
    obtain ⟨en, G', sW, gW, hi', hm', hl⟩ := hW
    by_cases hlt : i < ds.length
    · right
      have hd : ds[i]? = some ds[i] := List.getElem?_eq_getElem hlt
      rw [List.drop_eq_getElem_cons hlt] at hl
      simp only [forLoop] at hl
      refine ⟨ok.go i _ H' G' hd gW sW.gh, fun σ5 H5 => ∃ en5 G5, SR C en5 σ5 H5 G5 ∧ Same G1 G5 ∧ forLoop asg mb (ds.drop (i + 1)) en5 = some fl, fun σ5 H5 ⟨en5, G5, a1, a2, a3⟩ => ⟨ds.length - (i + 1), by omega, en5, G5, a1, a2, hlt, rfl, a3⟩, fun x H3 hy => ?_⟩
      obtain ⟨G3, st3, rx⟩ := ok.yl i _ H' G' x H3 hd gW sW.gh hy
      split at hl
      · rename_i en1 hA
        refine ⟨en, G3, _, en1, sW.step st3, rx, hA, fun σ2 s2 _ => ?_⟩
        split at hl
        · rename_i en2 hB
          exact ⟨en1, G3, _, s2, hB, fun σ' H' G4 g4 s4 => ⟨en2, G4, s4, gW.trans (st3.gg.trans g4), hl⟩⟩
        · rename_i en2 hB
          exact ⟨en1, G3, _, s2, hB, fun σ' H' G4 g4 s4 => ⟨en2, G4, s4, gW.trans (st3.gg.trans g4), hl⟩⟩
        · rename_i en2 hB
          cases hl
          exact ⟨en1, G3, _, s2, hB, fun σ' H' G4 g4 s4 => hq σ' H' G4 (hg1.trans (gW.trans (st3.gg.trans g4))) s4⟩
        · rename_i d fr hB
          cases hl
          exact ⟨en1, G3, _, s2, hB, hq⟩
        · cases hl
      · cases hl
    · left
      have ei : i = ds.length := by omega
      subst ei
      rw [List.drop_length] at hl
      cases hl
      exact ⟨ok.st H' G' gW sW.gh, hq σ' H' G' (hg1.trans gW) sW⟩
  · cases hm
/-! ### methods that change an own list -/
theorem SR.mutate {env : Env} {σ : St} {H G : Hp} {i : Nat} {p : Addr} {o' : HO} {d d' : D} (r : SR C env σ H G) (h : env[i]? = some (some ⟨d, true⟩)) (hp : σ[i]? = some (some (.ref p))) (ho : OwnO C.K G o' d') : SR C (env.set i (some ⟨d', true⟩)) σ (upd H p o') G := by
  obtain ⟨p', o, e1, e2, e3, e4, e5⟩ := r.ow i d h
  rw [hp] at e1
  cases e1
  refine ⟨fun a u e => by rw [upd_ne (ne_of_none e e2)]; exact r.h0 a u e, r.g0, fun a u e => by rw [upd_ne (ne_of_none e e3)]; exact r.gh a u e, by simpa using r.len, by simpa using r.ln, fun j e hj => ?_, fun j e hj => ?_, fun j l e f q ne hj hl => ?_⟩
  · rcases get_set hj with ⟨rfl, ee⟩ | ⟨n1, ee⟩
    · cases ee
    · exact r.sl j e ee
  · rcases get_set hj with ⟨rfl, ee⟩ | ⟨n1, ee⟩
    · cases ee
      exact ⟨p, o', hp, e2, e3, upd_same, ho⟩
    · obtain ⟨q, u, h1, h2, h3, h4, h5⟩ := r.ow j e ee
      have nq : q ≠ p := fun z => r.dj i j d e p n1 h ee hp (by rw [h1, z])
      exact ⟨q, u, h1, h2, h3, by rw [upd_ne nq]; exact h4, h5⟩
  · have aux : ∀ (j : Nat) (e : D), (env.set i (some ⟨d', true⟩))[j]? = some (some ⟨e, true⟩) → ∃ e', env[j]? = some (some ⟨e', true⟩) := fun j e hj => by
      rcases get_set hj with ⟨rfl, _⟩ | ⟨_, ee⟩
      · exact ⟨d, h⟩
      · exact ⟨e, ee⟩
    obtain ⟨e', he'⟩ := aux j e hj
    obtain ⟨f', hf'⟩ := aux l f hl
    exact r.dj j l e' f' q ne he' hf'
inductive Mt where
  | append | insert | reverse | clear
  deriving DecidableEq
def dMt : Mt → List D → List D → Option (List D)
  | .append, xs, [y] => if xs.length < sizeLine then some (xs ++ [y]) else none
  | .insert, xs, [.int i, y] => if xs.length < sizeLine ∧ 0 ≤ i ∧ i < 2 ^ 63 then some (xs.take i.toNat ++ [y] ++ xs.drop i.toNat) else none
  | .reverse, xs, [] => some xs.reverse
  | .clear, _, [] => some []
  | _, _, _ => none
def mtId : Mt → String
  | .append => "list.append" | .insert => "list.insert" | .reverse => "list.reverse" | .clear => "list.clear"
def mtName : Mt → Str
  | .append => "append" | .insert => "insert" | .reverse => "reverse" | .clear => "clear"
def mMeth (i : Nat) (t : Mt) (ml : ML) : MS := fun env => match env[i]? with
  | some (some ⟨.list _, true⟩) => (match ml env with
    | some (ds, e) => (match e[i]? with
      | some (some ⟨.list xs, true⟩) => (match dMt t xs ds with
        | some ys => some (.nx (e.set i (some ⟨.list ys, true⟩)))
        | none => none)
      | _ => none)
    | none => none)
  | _ => none
/-- the method's own rule, over an own list -/
theorem mt_own (t : Mt) : MtR X (mtId t) (fun x vs H Q => ∃ l xs G ds zs ys, x = .ref l ∧ H l = some (.lst xs) ∧ RpAll X.K G xs zs ∧ RpAll X.K G vs ds ∧ dMt t zs ds = some ys ∧ ∀ ws, RpAll X.K G ws ys → Q .non (upd H l (.lst ws))) := by
  intro pins s σ H x vs v us Q I rx rv ⟨l, xs, G, ds, zs, ys, ex, hl, r1, r2, hd, q⟩
  unfold dMt at hd
  split at hd
  · split at hd
    · rename_i hz
      cases hd
      cases r2 with
      | cons a1 a2 =>
        cases a2
        exact mt_append pins s σ H x _ v us Q I rx rv ⟨l, xs, _, ex, rfl, hl, by rw [r1.length]; exact hz, q _ (r1.snoc a1)⟩
    · cases hd
  · split at hd
    · rename_i hz
      cases hd
      cases r2 with
      | cons a1 a2 =>
        cases a2 with
        | cons a3 a4 =>
          cases a4
          cases a1
          exact mt_insert pins s σ H x _ v us Q I rx rv ⟨l, xs, _, _, ex, rfl, hl, by rw [r1.length]; exact hz.1, hz.2.1, hz.2.2, q _ (((r1.take _).append (.cons a3 .nil)).append (r1.drop _))⟩
    · cases hd
  · cases hd
    cases r2
    exact mt_reverse pins s σ H x _ v us Q I rx rv ⟨l, xs, ex, rfl, hl, q _ r1.reverse⟩
  · cases hd
    cases r2
    exact mt_clear pins s σ H x _ v us Q I rx rv ⟨l, xs, ex, rfl, hl, q _ .nil⟩
  · cases hd
theorem plain_stars {es : List Expr} (h : es.all plainE = true) (env : PySem.Env) (pos : Pos) : (backTo pos (starEach es env)).any (·.1) = false ∧ (backTo pos (starEach es env)).all (fun x => !x.1) = true := by
  induction es with
  | nil => exact ⟨rfl, rfl⟩
  | cons e es ih =>
    rw [List.all_cons, Bool.and_eq_true] at h
    rw [plain_star h.1 es env]
    obtain ⟨h1, h2⟩ := ih h.2
    exact ⟨by simpa [backTo] using h1, by simpa [backTo] using h2⟩
theorem mt_slot (t : Mt) : Slot "list" (mtName t) (mtId t) := by
  cases t
  · exact PySem.F.slot_list_append
  · exact PySem.F.slot_list_insert
  · exact PySem.F.slot_list_reverse
  · exact PySem.F.slot_list_clear
theorem mt_type (t : Mt) : typeOf (.builtin (mtId t)) = pure (.type "method_descriptor") := by
  cases t
  · exact PySem.F.type_list_append
  · exact PySem.F.type_list_insert
  · exact PySem.F.type_list_reverse
  · exact PySem.F.type_list_clear
/-- what a method's call leaves -/
theorem tS_meth {i : Nat} {t : Mt} {ml : ML} (e : C.K = X.K) {Dn : Ends} {σ : St} {H : Hp} (h : tS C (mMeth i t ml) Dn σ H) : ∃ p xs, σ[i]? = some (some (.ref p)) ∧ H p = some (.lst xs) ∧
    tL C ml σ H fun vs H2 => ∃ l ys G ds zs ws, (V.ref p) = .ref l ∧ H2 l = some (.lst ys) ∧ RpAll X.K G ys zs ∧ RpAll X.K G vs ds ∧ dMt t zs ds = some ws ∧ ∀ us, RpAll X.K G us ws → Dn.nx σ (upd H2 l (.lst us)) := by
  obtain ⟨env, G, fl, hs, hm, hq⟩ := h
  unfold mMeth at hm
  split at hm
  · rename_i xs0 h0
    split at hm
    · rename_i ds e1 h1
      split at hm
      · rename_i xs h2
        split at hm
        · rename_i ys h3
          cases hm
          obtain ⟨p, o, a1, a2, a3, a4, a5⟩ := hs.ow i _ h0
          rcases a5 with ⟨vs0, ds0, b1, b2, b3⟩ | ⟨_, _, _, b2, _⟩
          · refine ⟨p, vs0, a1, by rw [a4, b1], env, G, ds, e1, hs, h1, fun vs H2 G2 hh hg s2 rs => ?_⟩
            obtain ⟨p', o', c1, c2, c3, c4, c5⟩ := s2.ow i _ h2
            rw [a1] at c1
            cases c1
            rcases c5 with ⟨vs1, ds1, d1, d2, d3⟩ | ⟨_, _, _, d2, _⟩
            · cases d2
              rw [e] at d3 rs
              refine ⟨p, vs1, G2, ds, xs, ys, rfl, by rw [c4, d1], d3, rs, h3, fun us ru => ?_⟩
              rw [← e] at ru
              exact hq σ _ G2 hg (s2.mutate h2 a1 (.inl ⟨us, ys, rfl, rfl, ru⟩))
            · cases d2
          · cases b2
        · cases hm
      · cases hm
    · cases hm
  · cases hm
theorem psMeth1 {i : Nat} {t : Mt} {x : Str} {a : Expr} {as : List Expr} {ms : List MV} {px apos cpos pos : Pos} (e : C.K = X.K) (hN : X.N[i]? = some x) (hv : Vis X.env.scope x) (hd : (x == ("__debug__" : Str)) = false) (hcd : (x == ("__classdict__" : Str)) = false)
    (hp : (a :: as).all plainE = true) (ha : PEall X C (a :: as) ms) (hline : (apos.endLine == cpos.line) = true) (hlen : (a :: as).length < 30) :
    PS X (.Expr (.Call (.Attribute (.Name x px) (mtName t) apos) (a :: as) [] cpos) pos) (tS C (mMeth i t (lS ms))) := by
  have hp' := hp
  rw [List.all_cons, Bool.and_eq_true] at hp'
  have hst := plain_stars hp X.env cpos
  have hst' := plain_stars hp'.2 X.env cpos
  refine psImp (ps_expr (pe_bm PySem.F.plainAttrs_list (mt_slot t) (mt_type t) (mt_own t) (pe_var hN hv hd hcd) (paS hp ha) rfl ?_ hline (plain_star hp'.1 as X.env) hst'.1) rfl) fun Dn σ H q => ?_
  · rw [hst.2]
    simpa [keywordEach, backToKw] using hlen
  · obtain ⟨p, xs, h1, h2, h3⟩ := tS_meth e q
    exact ⟨_, h1, .inl ⟨rfl, xs, .inl (.inl h2)⟩, h3⟩
theorem psMeth0 {i : Nat} {t : Mt} {x : Str} {px apos cpos pos : Pos} (e : C.K = X.K) (hN : X.N[i]? = some x) (hv : Vis X.env.scope x) (hd : (x == ("__debug__" : Str)) = false) (hcd : (x == ("__classdict__" : Str)) = false) (hline : (apos.endLine == cpos.line) = true) :
    PS X (.Expr (.Call (.Attribute (.Name x px) (mtName t) apos) [] [] cpos) pos) (tS C (mMeth i t (lS []))) := by
  refine psImp (ps_expr (pe_bm0 PySem.F.plainAttrs_list (mt_slot t) (mt_type t) (mt_own t) (pe_var hN hv hd hcd) rfl hline) rfl) fun Dn σ H q => ?_
  obtain ⟨p, xs, h1, h2, h3⟩ := tS_meth e q
  refine ⟨_, h1, .inl ⟨rfl, xs, .inl (.inl h2)⟩, ?_⟩
  obtain ⟨env, G, ds, env', hs, hm, hq⟩ := h3
  cases hm
  exact hq [] H G (Same.refl _) (Same.refl _) hs .nil
/-! ### x[i] = e -/
def dPut (ds : List (D × D)) (k : Key) (v : D) : List (D × D) :=
  if (dGet ds k).isSome = true then ds.map fun kv => if keyOf kv.1 = some k then (kv.1, v) else kv else ds ++ [(kD k, v)]
def dSetI : D → D → D → Option D
  | .list xs, .int j, v => (match ixN xs.length j with
    | some n => some (.list (xs.set n v))
    | none => none)
  | _, _, _ => none
def mSetI (i : Nat) (mi mv : MV) : MS := fun env => match mv env with
  | some (v, k, e1) => (match (shEnv k v e1)[i]? with
    | some (some ⟨_, true⟩) => (match mi (shEnv k v e1) with
      | some (j, _, e2) => (match e2[i]? with
        | some (some ⟨d, true⟩) => (match dSetI d j v with
          | some d' => some (.nx (e2.set i (some ⟨d', true⟩)))
          | none => none)
        | _ => none)
      | none => none)
    | _ => none)
  | none => none
theorem swaps_sub {e o i : Expr} {p : Pos} (l : Nat) (env : PySem.Env) : swapsWithSole [.Subscript o i p] e l env = pure false := by
  show swapsWith e (some (.Subscript o i p)) l env = pure false
  cases e <;> rfl
theorem swapped_sub {e o i : Expr} {p : Pos} (env : PySem.Env) : swappedStores [.Subscript o i p] e env = pure none := by
  cases e <;> rfl
def notSl : Expr → Bool
  | .Slice _ _ _ _ => false
  | _ => true
theorem psSetI {i : Nat} {x : Str} {ie ve : Expr} {mi mv : MV} {px p pos : Pos} (hN : X.N[i]? = some x) (hv : Vis X.env.scope x) (hd : (x == ("__debug__" : Str)) = false) (hcd : (x == ("__classdict__" : Str)) = false)
    (hi : PE X ie (tE C mi)) (hve : PE X ve (tE C mv)) (hn : notSl ie = true) : PS X (.Assign [.Subscript (.Name x px) ie p] ve pos) (tS C (mSetI i mi mv)) := by
  refine psImp (ps_asg hve (pg_sub (pe_var hN hv hd hcd) hi set_list ?_) (swaps_sub _ _) (swapped_sub _)) fun Dn σ H q => ?_
  · intro v
    cases ie <;> first | rfl | (cases hn; done)
  · obtain ⟨env, G, fl, hs, hm, hq⟩ := q
    unfold mSetI at hm
    split at hm
    · rename_i dv kv e1 h1
      split at hm
      · rename_i d0 h0
        split at hm
        · rename_i dj kj e2 h2
          split at hm
          rotate_left
          · cases hm
          rename_i d h3
          split at hm
          rotate_left
          · cases hm
          · rename_i d' h4
            cases hm
            refine ⟨env, G, dv, kv, e1, hs, h1, fun v H1 G1 hh hg s1 hv1 => ?_⟩
            obtain ⟨G2, g2, s2, rp⟩ := s1.useS hv1
            obtain ⟨w, _, hw, _⟩ := s2.ow i _ h0
            refine ⟨.ref w, hw, shEnv kv dv e1, G2, dj, kj, e2, s2, h2, fun jv H3 G3 hh3 hg3 s3 hj => ?_⟩
            obtain ⟨G4, g4, s4, rbj⟩ := s3.useR hj
            obtain ⟨p', o', c1, c2, c3, c4, c5⟩ := s4.ow i _ h3
            rw [hw] at c1
            cases c1
            unfold dSetI at h4
            split at h4
            · rename_i xs j
              split at h4
              · rename_i n hn'
                cases h4
                rcases c5 with ⟨vs1, ds1, d1, d2, d3⟩ | ⟨_, _, _, d2, _⟩
                · cases d2
                  refine ⟨_, vs1, _, n, rfl, rbj.int, by rw [c4, d1], by rw [d3.length]; exact hn', ?_⟩
                  exact hq σ _ G4 (hg.trans (g2.trans (hg3.trans g4))) (s4.mutate h3 hw (.inl ⟨_, _, rfl, rfl, RpAll.set (Rp.mono (hg3.trans g4) _ _ rp) n d3⟩))
                · cases d2
              · cases h4
            · cases h4
        · cases hm
      · cases hm
    · cases hm
end
end HC
set_option Elab.async false
set_option linter.all false
set_option maxRecDepth 100000
set_option autoImplicit false
/-! HC, part H: defs, calls. -/
namespace HC
open PySem PySem.Spec PyProof.Rows L2
/-! ### a def's promise, where no repr runs around it -/
structure FnK (P : Program) (w : World) (K : PySem.W.Frag) (mg : Str → Option Value) (base : Heap) (k : Nat) (f : Addr) (fd : FuncData) (ps : List Str) (sp : Sp) : Prop where
  len : ∀ vs H Q E, sp vs H Q E → vs.length = ps.length
  run : ∀ (A : Around) (outer : List PySem.Env) (s : Shared) (H : Hp) (args : Args) (us : List Value) (vs : List V) (Q : VK) (E : XK), Room k A → A.guards = some [] → Env0 P w K mg base A outer s H → BindsTo s fd args (ps.zip us) → Vals vs us → sp vs H Q E →
    codeAny (model P w) A (.call (.ref f) args) (CR CX0 outer P w H s Q E) s
theorem deeper_guards (A : Around) (env : PySem.Env) : (A.deeper env).guards = A.guards := by
  first | rfl | simp [Around.deeper]
section
variable {P : Program} {w : World} {K : PySem.W.Frag} {mg : Str → Option Value} {base : Heap}
theorem fn_ofK {k : Nat} {f : Addr} {name qual : Str} {params : Arguments} {body : List Stmt} {scope : Scope} {dV kV doc pm cdv ct oc : Value} {an od : Option Addr} {osl : Array (Option Value)} {N ps : List Str} {sp : Sp}
    (lk : K.lookup f = some ⟨oc, od, .func (PySem.W.fnOf name qual params body scope dV kV doc pm an cdv ct), osl⟩) (hcd : PySem.W.codeIn K cdv qual = true) (S : FnScope N ps scope) (len : ∀ vs H Q E, sp vs H Q E → vs.length = ps.length)
    (hbody : ∀ (A : Around) (outer : List PySem.Env) (s : Shared) (H : Hp) (vs : List V) (Q : VK) (E : XK), Room k (A.deeper (envOfC qual scope s.heap.objs.size f cdv)) → A.guards = some [] → sp vs H Q E →
      ∃ t, PSs (cxOf CX0 P w K mg base N qual scope f cdv A outer s H E).nox body t ∧ t { nx := fun _ H' => Q .non H', rt := Q } (start N vs) H) :
    FnK P w K mg base (k + 1) f (PySem.W.fnOf name qual params body scope dV kV doc pm an cdv ct) ps sp where
  len := len
  run := fun A outer s H args us vs Q E hr hgd e0 hb r hsp => by
    have KX : K.In s.heap := e0.mod.kin.keeps fun b o e => (e0.bs b o e).1
    have lim : s.heap.NoLimit := e0.mod.nolimit.keeps fun b o e => (e0.bs b o e).1
    have hk : ∀ y ∈ ps.zip us, scope.names.lookup y.1 = some .local ∨ (scope.names.lookup y.1 = some .cell ∧ ((cellsFrom (s.heap.objs.size + 1) scope.names []).lookup y.1).isSome = true) := by
      rintro ⟨n, v⟩ hy
      cases S.par n (List.of_mem_zip hy).1 with
      | inl q => exact .inl q
      | inr q => exact .inr ⟨q, PySem.W.cellsFrom_some _ _ _ (.inl q)⟩
    refine codeAny_call_function hr.depth (KX _ _ lk) rfl S.co S.gen rfl (PySem.W.codeRec_of KX hcd) (hb _ _ _ _ ?_)
    refine wpAny_newFunctionEnv_cells S.kind hk fun env he s1 x => ?_
    subst he
    refine ⟨lim.keeps x.toInCall.keep, codeAny_func ?_⟩
    obtain ⟨t, ht, hq⟩ := hbody A outer s H vs Q E (hr.deeper _) hgd hsp
    have I : Inv (cxOf CX0 P w K mg base N qual scope f cdv A outer s H E) [] (start N vs) H s1 := inv_start S hr.hd e0 (len _ _ _ _ hsp) r x
    refine wpAny_mono (ht.nox.run [] s1 (start N vs) H _ I hq) (fun fl s' hs => ?_) fun e s' hs => hs
    have fin : ∀ {σ' : L2.St} {H' : Hp} {v : V} {u : Value}, Inv (cxOf CX0 P w K mg base N qual scope f cdv A outer s H E) [] σ' H' s' → RelV v u → Q v H' → CE outer P w H s Q u s' :=
      fun {σ' H' v u} J rv q => ⟨v, H', J.os, J.bare, J.base, J.hok, rv, q⟩
    cases fl with
    | ret u =>
      obtain ⟨v, σ', H', J, rv, q⟩ := hs
      exact fin J rv q
    | next =>
      obtain ⟨σ', H', J, q⟩ := hs
      exact fin (v := V.non) (u := Value.none) J rfl q
    | brk => exact hs.elim fun _ z => z.elim fun _ z => False.elim z.2
    | cont => exact hs.elim fun _ z => z.elim fun _ z => False.elim z.2
end
/-- what a def by data promises -/
def spD (K : PySem.W.Frag) (g : List D → Option (D × Bool)) : Sp := fun vs H Q _ => ∃ G ds d fr, Same G H ∧ RpAll K G vs ds ∧ g ds = some (d, fr) ∧
  ∀ v H' G', Step H G H' G' → ResV K H G' H' fr v d → Q v H'
section
variable {X : Cx} {C : Cn}
theorem run_fnK {k : Nat} {f : Addr} {fd : FuncData} {ps : List Str} {sp : Sp} {dvs : List V} {ds : List Value} {E : XK} {pins : List (Addr × Obj)} {σ : St} {H : Hp} {s : Shared} {Q : VK} {us : List Value} {vs : List V} (F : FnK X.prog X.w X.K X.mg X.base k f fd ps sp) (hr : Room k X.A) (hgd : X.A.guards = some [])
    (hb : Binds X.K fd ps ds) (hd : Vals dvs ds) (I : Inv X pins σ H s) (r : Vals vs us) (h : sp (vs ++ dvs) H Q E) : wpAny (model X.prog X.w) X.A (call (.ref f) us) (EP X pins σ Q) X.xe s := by
  have r2 := r.append hd
  have hl : (us ++ ds).length = ps.length := by rw [← r2.length]; exact F.len _ _ _ _ h
  refine wpAny_call (codeAny_mono (F.run X.A X.stack s H ⟨us, []⟩ (us ++ ds) (vs ++ dvs) Q E hr hgd I.env0 (hb s us I.kIn hl) r2 h) fun r s' hq => ?_)
  cases r with
  | error e => exact False.elim hq
  | ok fl =>
    cases fl with
    | ret u => exact I.after hq
    | _ => exact False.elim hq
def mCall (g : List D → Option (D × Bool)) (m : ML) : MV := fun env => match m env with
  | some (ds, e) => (match g ds with
    | some (d, fr) => some (d, kOf fr, e)
    | none => none)
  | none => none
theorem tE_call {K : PySem.W.Frag} (e : C.K = K) {g : List D → Option (D × Bool)} {m : ML} {E : XK} {σ : St} {H : Hp} {Q : VK} (h : tE C (mCall g m) σ H Q) : tL C m σ H fun vs H1 => spD K g (vs ++ []) H1 Q E := by
  subst e
  obtain ⟨env, G, d, k, env', hs, hm, hq⟩ := h
  unfold mCall at hm
  split at hm
  · rename_i ds e h1
    split at hm
    · rename_i c fr h2
      cases hm
      refine ⟨env, G, ds, env', hs, h1, fun vs H1 G1 hh hg s1 rs => ?_⟩
      refine ⟨G1, ds, d, fr, s1.gh, by rw [List.append_nil]; exact rs, h2, fun z H' G' st rv => ?_⟩
      exact hq z H' G' (hh.trans st.hh) (hg.trans st.gg) (s1.step st) (rv.vr s1)
    · cases hm
  · cases hm
theorem peCall {k : Nat} {f : Addr} {fd : FuncData} {ps : List Str} {g : List D → Option (D × Bool)} {x : Str} {a : Expr} {as : List Expr} {m : ML} {p pos : Pos} (e : C.K = X.K) (F : FnK X.prog X.w X.K X.mg X.base k f fd ps (spD X.K g)) (hr : Room k X.A) (hgd : X.A.guards = some [])
    (hg : Gl X x) (hm : X.mg x = some (.ref f)) (hk : PySem.W.keepIn X.K (.ref f) = true) (hb : Binds X.K fd ps []) (ha : PA X (a :: as) (tL C m)) (hp : (a :: as).all plainE = true) (hdb : (x == ("__debug__" : Str)) = false) :
    PE X (.Call (.Name x p) (a :: as) [] pos) (tE C (mCall g m)) := by
  rw [List.all_cons, Bool.and_eq_true] at hp
  refine ⟨fun pins s σ H Q I h => ?_⟩
  refine wpAny_Call_Name_kw (ld_glob I hg hm ?_ hdb)
  refine PySem.W.callWith_K (h₀ := X.base) I.ok.mod.kin hk (thn (ha.run pos pins s σ H _ I (tE_call (E := fun _ _ _ => False) e h)) fun us s1 ⟨vs, H1, I1, r, q⟩ => ⟨I1.kIn, ?_⟩) (plain_star hp.1 as X.env) (plain_stars hp.2 X.env pos).1
  exact run_fnK F hr hgd hb .nil I1 r q
/-! ### built-in functions, isinstance -/
def biName : Bi → Str
  | .len => "len" | .all => "all" | .any => "any" | .max => "max" | .int => "int" | .list => "list" | .tuple => "tuple" | .repr => "repr"
theorem peBi {b : Bi} {a : Expr} {as : List Expr} {m : ML} {p pos : Pos} (e : C.K = X.K) (L : Low X) (hc : X.calm = true) (hG : X.A.guards = some []) (hu : X.A.units + 70 < cLine) (hg : Gl X (biName b)) (hm : X.mg (biName b) = none) (ha : PA X (a :: as) (tR C m)) (hp : (a :: as).all plainE = true) :
    PE X (.Call (.Name (biName b) p) (a :: as) [] pos) (tE C (mBi b m)) := by
  rw [List.all_cons, Bool.and_eq_true] at hp
  have hx : ∀ σ H Q, tE C (mBi b m) σ H Q → tCB (rC X.K (dBi b)) (tR C m) σ H Q := fun σ H Q q => by rw [← e]; exact tCB_bi q
  have h1 := plain_star hp.1 as X.env
  have h2 := (plain_stars hp.2 X.env pos).1
  have hR := callr_bi L hc hG hu b
  cases b with
  | len => exact peImp (pe_callB hR hg hm (by decide +kernel) ha (by decide) (by decide) h1 h2) hx
  | all => exact peImp (pe_callB hR hg hm (by decide +kernel) ha (by decide) (by decide) h1 h2) hx
  | any => exact peImp (pe_callB hR hg hm (by decide +kernel) ha (by decide) (by decide) h1 h2) hx
  | max => exact peImp (pe_callB hR hg hm (by decide +kernel) ha (by decide) (by decide) h1 h2) hx
  | repr => exact peImp (pe_callB hR hg hm (by decide +kernel) ha (by decide) (by decide) h1 h2) hx
  | int => exact peImp (pe_callTy hR hg hm (by decide +kernel) ha (by decide) (by decide) h1 h2) hx
  | list => exact peImp (pe_callTy hR hg hm (by decide +kernel) ha (by decide) (by decide) h1 h2) hx
  | tuple => exact peImp (pe_callTy hR hg hm (by decide +kernel) ha (by decide) (by decide) h1 h2) hx
def tyStr (t : Ty) : Str := tyName t
def dIsaR (t : Ty) (d : D) : Option (D × Bool) := some (.bool (dIsa t d), false)
theorem boot_ty (t : Ty) : bootBuiltins (tyStr t) = some (.type (tyName t)) := by
  cases t <;> decide +kernel
theorem peIsa {t : Ty} {a : Expr} {m : MV} {p p2 pos : Pos} (e : C.K = X.K) (hg : Gl X "isinstance") (hm : X.mg "isinstance" = none) (hg2 : Gl X (tyStr t)) (hm2 : X.mg (tyStr t) = none) (ha : PE X a (tE C m)) (hp : plainE a = true) :
    PE X (.Call (.Name "isinstance" p) [a, .Name (tyStr t) p2] [] pos) (tE C (ev1 m (dIsaR t))) := by
  have hn : tyStr t ≠ "__name__" := by cases t <;> decide
  have hd : (tyStr t == ("__debug__" : Str)) = false := by cases t <;> decide
  refine peImp (pe_callB call_isi hg hm (by decide +kernel) (pa_cons ha (pa_cons (pe_bltn (v := .ty (tyName t)) hg2 hm2 (boot_ty t) rfl hn hd) pa_nil) (plain_star hp _ X.env)) (by decide) (by decide) (plain_star hp _ X.env) rfl) fun σ H Q q => ?_
  refine tE.one (r := fun x H Q => rIsi X.K [x, .ty (tyName t)] H Q) (fun x H G Q a c fr gh rb hg hq => ?_) q
  cases hg
  refine ⟨x, .ty (tyName t), .type (tyOfD a), .type (tyName t), dIsa t a, rfl, .ty _, ?_, kit_isa t a, res_sc gh hq (.bl _)⟩
  rw [← e]
  exact tyX_of (rb.rp gh)
end
end HC
set_option Elab.async false
set_option linter.all false
set_option maxRecDepth 100000
set_option autoImplicit false
/-! HC, part I: subscripts, slices, methods as values, comprehensions as expressions. -/
namespace HC
open PySem PySem.Spec PyProof.Rows L2
def dIx : D → D → Option (D × Bool)
  | .list ds, .int i => (match atI ds i with
    | some d => some (d, false)
    | none => none)
  | .tuple ds, .int i => (match atI ds i with
    | some d => some (d, false)
    | none => none)
  | .str z, .int i => if z.length ≤ sizeLine then (match atI z.cps.toList i with
    | some c => some (.str ⟨#[c]⟩, false)
    | none => none) else none
  | .dict ds, k => (match keyOf k with
    | some k => (match dGet ds k with
      | some d => some (d, false)
      | none => none)
    | none => none)
  | _, _ => none
section
variable {X : Cx} {C : Cn}
theorem atI_rp {K : PySem.W.Frag} {G : Hp} {vs : List V} {ds : List D} {i : Int} {d : D} (h : RpAll K G vs ds) (e : atI ds i = some d) : ∃ v, atI vs i = some v ∧ Rp K G v d := by
  unfold atI at e ⊢
  rw [h.length]
  cases q : ixN ds.length i with
  | none => rw [q] at e; cases e
  | some j =>
    rw [q] at e
    exact h.get e
theorem ix_dict (hu : X.A.units + 1 < cLine) : IxR X (fun x y H Q => ∃ a v, x = .ref a ∧ DGet H a y (some v) ∧ Q v H) := by
  intro value slice pins s σ H x y v u Q I rx ry ⟨a, z, ex, g, q⟩ hs
  subst ex
  cases rx
  exact tail_any (ops := [.ref a, u]) (dict_typeIs I g) PySem.F.slot_dict_getitem.lookup (d_getItem hu I g ry fun w' s3 I3 rw' => ⟨z, H, I3, rw', q⟩) hs
theorem ixr (hu : X.A.units + 1 < cLine) : IxR X (rD X.K dIx) := by
  intro value slice pins s σ H x y v u Q I rx ry ⟨G, a, b, c, fr, gh, ra, rb, hg, q⟩ hs
  unfold dIx at hg
  split at hg
  · split at hg
    · rename_i d he
      cases hg
      obtain ⟨p, vs, e1, h1, h2⟩ := ra.list gh
      obtain ⟨z, e2, e3⟩ := atI_rp h2 he
      exact ix_list value slice pins s σ H x y v u Q I rx ry ⟨p, vs, _, z, e1, rb.int, rd_sq h1, e2, res_sc gh q e3⟩ hs
    · cases hg
  · split at hg
    · rename_i d he
      cases hg
      obtain ⟨p, vs, e1, h1, h2⟩ := ra.tuple gh
      obtain ⟨z, e2, e3⟩ := atI_rp h2 he
      exact ix_tup value slice pins s σ H x y v u Q I rx ry ⟨p, vs, _, z, e1, rb.int, h1, e2, res_sc gh q e3⟩ hs
    · cases hg
  · split at hg
    · rename_i hz
      split at hg
      · rename_i ch he
        cases hg
        exact ix_str value slice pins s σ H x y v u Q I rx ry ⟨_, _, ch, ra.str, rb.int, hz, he, res_sc gh q (.str _)⟩ hs
      · cases hg
    · cases hg
  · split at hg
    · rename_i k hk
      split at hg
      · rename_i d he
        cases hg
        obtain ⟨p, kvs, e1, h1, h2⟩ := ra.dict gh
        rcases dGet_of k h2 with ⟨_, e2⟩ | ⟨v', d', e3, e4, e5⟩
        · rw [e2] at he; cases he
        · rw [e4] at he
          cases he
          exact ix_dict hu value slice pins s σ H x y v u Q I rx ry ⟨p, v', e1, .inl ⟨kvs, k, h1, key_of rb hk, e3.symm⟩, res_sc gh q e5⟩ hs
      · cases hg
    · cases hg
  · cases hg
theorem peIx {a b : Expr} {ma mb : MV} {pos : Pos} (e : C.K = X.K) (hu : X.A.units + 1 < cLine) (ha : PE X a (tE C ma)) (hb : PE X b (tE C mb)) (hp : plainE b = true) : PE X (.Subscript a b pos) (tE C (ev2 ma mb dIx)) :=
  peImp (pe_ix (ixr hu) ha hb (plain_ix hp)) fun σ H Q q => tE.two (by rw [e]; exact d2_rD _ _) q
/-! ### slices -/
def cutD (ds : List D) (lo hi : Option Int) : List D := (ds.drop (HT.sIx ds.length 0 lo)).take (HT.sIx ds.length ds.length hi - HT.sIx ds.length 0 lo)
def dSl : D → Option Int → Option Int → Option (D × Bool)
  | .list ds, lo, hi => some (.list (cutD ds lo hi), true)
  | .tuple ds, lo, hi => some (.tuple (cutD ds lo hi), false)
  | _, _, _ => none
def rSlD (K : PySem.W.Frag) : V → Option Int → Option Int → Hp → VK → Prop := fun x lo hi H Q => ∃ G a c fr, Same G H ∧ RB K G H x a ∧ dSl a lo hi = some (c, fr) ∧
  ∀ z H' G', Step H G H' G' → ResV K H G' H' fr z c → Q z H'
theorem cut_rp {K : PySem.W.Frag} {G : Hp} {vs : List V} {ds : List D} (h : RpAll K G vs ds) (lo hi : Option Int) : RpAll K G (cutV vs lo hi) (cutD ds lo hi) := by
  unfold cutV cutD
  rw [h.length]
  exact (h.drop _).take _
theorem slr : SlR X (rSlD X.K) := by
  intro pins s σ H x v vl vu lo hi sl Q I rx hs pl pu ⟨G, a, c, fr, gh, ra, hg, q⟩
  unfold dSl at hg
  split at hg
  · cases hg
    obtain ⟨p, vs, e1, h1, h2⟩ := ra.list gh
    exact sl_list pins s σ H x v vl vu lo hi sl Q I rx hs pl pu ⟨p, vs, e1, rd_sq h1, fun l hl => res_lst gh q (cut_rp h2 lo hi) hl⟩
  · cases hg
    rename_i ds
    have rp := ra.tup_rp
    obtain ⟨p, vs, e1, h1, h2⟩ := ra.tuple gh
    refine sl_tupA pins s σ H x v vl vu lo hi sl Q I rx hs pl pu ⟨p, vs, e1, h1, fun hw => ?_, fun _ l hl => res_tup gh q (cut_rp h2 lo hi) hl⟩
    have ec : cutD ds lo hi = ds := by
      unfold cutD
      rw [h2.length] at hw
      rw [hw.1, hw.2]
      simp
    rw [ec] at q
    rw [← e1]
    exact res_sc gh q rp
  · cases hg
def mPart : Option MV → Env → Option (Option Int × Env)
  | none, env => some (none, env)
  | some m, env => (match m env with
    | some (.int i, _, e) => some (some i, e)
    | _ => none)
def mSl (m : MV) (lo hi : Option MV) : MV := fun env => match m env with
  | some (a, _, e1) => (match mPart lo e1 with
    | some (l, e2) => (match mPart hi e2 with
      | some (h, e3) => (match dSl a l h with
        | some (c, fr) => some (c, kOf fr, e3)
        | none => none)
      | none => none)
    | none => none)
  | none => none
/-- a part of a slice -/
def tO (C : Cn) (m : Env → Option (Option Int × Env)) : TO := fun σ H Q => ∃ env G o env', SR C env σ H G ∧ m env = some (o, env') ∧ ∀ H' G', Same H H' → Same G G' → SR C env' σ H' G' → Q o H'
def POpt (X : Cx) (C : Cn) (e : Option Expr) (m : Option MV) : Prop := match e, m with
  | none, none => True
  | some e, some m => PE X e (tE C m)
  | _, _ => False
theorem poImp {e : Option Expr} {t t' : TO} (h : PO X e t) (i : ∀ σ H Q, t' σ H Q → t σ H Q) : PO X e t' := ⟨fun pins s σ H Q I q => h.run pins s σ H Q I (i σ H Q q)⟩
theorem poOf {e : Option Expr} {m : Option MV} (h : POpt X C e m) : PO X e (tO C (mPart m)) := by
  cases e with
  | none =>
    cases m with
    | none =>
      refine poImp po_none fun σ H Q q => ?_
      obtain ⟨env, G, o, env', hs, hm, hq⟩ := q
      cases hm
      exact hq H G (Same.refl _) (Same.refl _) hs
    | some _ => exact False.elim h
  | some e =>
    cases m with
    | none => exact False.elim h
    | some m =>
      refine poImp (po_some h) fun σ H Q q => ?_
      obtain ⟨env, G, o, env', hs, hm, hq⟩ := q
      simp only [mPart] at hm
      split at hm
      · rename_i i k e1 h1
        cases hm
        refine ⟨env, G, _, k, env', hs, h1, fun v H' G' hh hg s1 hv => ?_⟩
        obtain ⟨G2, g2, s2, rb⟩ := s1.useR hv
        exact ⟨i, rb.int, hq H' G2 hh (hg.trans g2) s2⟩
      · cases hm
theorem peSl {a : Expr} {lo hi : Option Expr} {m : MV} {ml mh : Option MV} {p2 pos : Pos} (e : C.K = X.K) (ha : PE X a (tE C m)) (hl : POpt X C lo ml) (hh : POpt X C hi mh) : PE X (.Subscript a (.Slice lo hi none p2) pos) (tE C (mSl m ml mh)) := by
  refine peImp (pe_slice slr ha (poOf hl) (poOf hh)) fun σ H Q q => ?_
  obtain ⟨env, G, d, k, env', hs, hm, hq⟩ := q
  unfold mSl at hm
  split at hm
  · rename_i a' ka e1 h1
    split at hm
    · rename_i l e2 h2
      split at hm
      · rename_i h e3 h3
        split at hm
        · rename_i c fr h4
          cases hm
          refine ⟨env, G, a', ka, e1, hs, h1, fun v H1 G1 hh1 hg1 s1 hv => ?_⟩
          obtain ⟨G2, g2, s2, rb⟩ := s1.useR hv
          refine ⟨e1, G2, l, e2, s2, h2, fun H3 G3 hh3 hg3 s3 => ⟨e2, G3, h, env', s3, h3, fun H4 G4 hh4 hg4 s4 => ?_⟩⟩
          refine ⟨G4, a', d, fr, s4.gh, ?_, h4, fun z H' G' st rv => ?_⟩
          · rw [← e]
            exact rb.mono (hg3.trans hg4) (hh3.trans hh4)
          · rw [← e] at rv
            exact hq z H' G' (hh1.trans (hh3.trans (hh4.trans st.hh))) (hg1.trans (g2.trans (hg3.trans (hg4.trans st.gg)))) (s4.step st) (rv.vr s4)
        · cases hm
      · cases hm
    · cases hm
  · cases hm
end
end HC
set_option Elab.async false
set_option linter.all false
set_option maxRecDepth 100000
set_option autoImplicit false
/-! HC, part J: t[::-1], comprehensions as expressions, methods as values, while, x op= e. -/
namespace HC
open PySem PySem.Spec PyProof.Rows L2
section
variable {prog : Program} {w : World} {A : Around} {E : Value → Shared → Prop} {s : Shared}
theorem rev_pick (xs : List Value) : (List.range xs.length).filterMap (fun (k : Nat) => xs.toArray[((xs.length : Int) - 1 + (k : Int) * (-1)).toNat]?) = xs.reverse := by
  have h1 : (List.range xs.length).filterMap (fun (k : Nat) => xs.toArray[((xs.length : Int) - 1 + (k : Int) * (-1)).toNat]?) = (List.range xs.length).filterMap (fun (k : Nat) => xs.reverse[k]?) := by
    have : ∀ l : List Nat, (∀ k ∈ l, k < xs.length) → l.filterMap (fun (k : Nat) => xs.toArray[((xs.length : Int) - 1 + (k : Int) * (-1)).toNat]?) = l.filterMap (fun (k : Nat) => xs.reverse[k]?) := by
      intro l hl
      induction l with
      | nil => rfl
      | cons k l ih =>
        have hk := hl k (by simp)
        rw [List.filterMap_cons, List.filterMap_cons, ih fun j hj => hl j (List.mem_cons_of_mem _ hj)]
        have e : xs.toArray[((xs.length : Int) - 1 + (k : Int) * (-1)).toNat]? = xs.reverse[k]? := by
          rw [List.getElem?_reverse hk, List.getElem?_toArray]
          congr 1
          omega
        rw [e]
    exact this _ fun k hk => List.mem_range.mp hk
  rw [h1]
  have h2 : ∀ ys : List Value, (List.range ys.length).filterMap (fun (k : Nat) => ys[k]?) = ys := by
    intro ys
    induction ys with
    | nil => rfl
    | cons y ys ih =>
      rw [List.length_cons, List.range_succ_eq_map, List.filterMap_cons]
      simp only [List.getElem?_cons_zero, List.filterMap_map]
      congr 1
  have := h2 xs.reverse
  rw [List.length_reverse] at this
  exact this
theorem sliceApplied_rev {sl : Addr} {vs : Value} {n : Nat} {Q : Int × Int × Nat → Shared → Prop} (hs : s.heap.IsSliceOf sl .none .none vs) (ps : IsPart vs (some (-1))) (h : Q ((n : Int) - 1, -1, n) s) :
    wpAny (model prog w) A (Builtin.Slice.sliceApplied (.ref sl) (pure (n : Int))) Q E s := by
  obtain ⟨os, hos, hcs, hds⟩ := id hs
  unfold Builtin.Slice.sliceApplied Builtin.Slice.sliceFields
  refine wpAny_bind (wpAny_bind (wpAny_field hos hds (x := .none) rfl (wpAny_bind (wpAny_field hos hds (x := .none) rfl (wpAny_bind (wpAny_field hos hds (x := vs) rfl (wpAny_pure ?_)))))))
  refine wpAny_bind (HT.slicePart_ ps ?_)
  show wpAny _ _ (if ((-1 : Int) == 0) = true then _ else _) _ _ s
  rw [if_neg (by decide)]
  refine wpAny_bind (HT.slicePart_ .none (wpAny_bind (HT.slicePart_ .none (wpAny_bind (wpAny_pure ?_)))))
  have e : Builtin.Slice.slicePlaces ((n : Int) - 1) (-1) (-1) = n := by
    unfold Builtin.Slice.slicePlaces
    rw [if_neg (by decide)]
    split
    · simp only [Int.neg_neg, Int.ediv_one]
      omega
    · omega
  show wpAny _ _ (pure ((n : Int) - 1, (-1 : Int), Builtin.Slice.slicePlaces ((n : Int) - 1) (-1) (-1))) _ _ s
  rw [e]
  exact wpAny_pure h
theorem getItem_tup_rev {t sl : Addr} {its : List Value} {vs : Value} {Q : Value → Shared → Prop} (ht : IsTup s.heap t its.toArray) (hs : s.heap.IsSliceOf sl .none .none vs) (ps : IsPart vs (some (-1)))
    (h : Q (.ref s.heap.objs.size) { s with heap := s.heap.push { cls := .type "tuple", data := .seq its.reverse.toArray } }) (hsz : its.length ≤ sizeLine) : wpAny (model prog w) A (getItem (.ref t) (.ref sl)) Q E s := by
  have hok : sizeOk (.seq its.reverse.toArray) := by
    show its.reverse.toArray.size ≤ sizeLine
    simpa using hsz
  obtain ⟨os, hos, hcs, hds⟩ := id hs
  have hTs : s.TypeIs (.ref sl) "slice" := ⟨os, hos, hcs⟩
  unfold getItem
  try with_reducible refine wpAny_holding ?_
  first | refine wpAny_bind (wpAny_pure ?_) | skip
  refine wpAny_bind (wpAny_sequenceKey ht.typeIs (by decide) ?_)
  refine wpAny_bind (wpAny_callSpecial?_slot (name := Str.ofString "__getitem__") ht.typeIs PyProof.Rows.slot_tuple_getitem
    (wpAny_call_entry PyProof.Rows.slot_tuple_getitem ht.typeIs entry_tuple_getitem ?_ (args_tuple_getitem _ _)))
  show wpAny _ _ (Builtin.Tuple.tupleItemsOf (.ref t) >>= _) _ _ s
  refine wpAny_bind (tupleItemsOf_ ht ?_)
  refine wpAny_bind (wpAny_typeOf hTs ?_)
  rw [if_pos (by decide)]
  refine wpAny_bind (sliceApplied_rev hs ps ?_)
  have hno : ¬ ((((its.toArray.size : Int) - 1) == 0 && (-1 : Int) == 1 && its.toArray.size == its.toArray.size) = true) := by
    intro q
    rw [Bool.and_eq_true, Bool.and_eq_true] at q
    exact absurd q.1.2 (by decide)
  show wpAny _ _ (if (((its.toArray.size : Int) - 1) == 0 && (-1 : Int) == 1 && its.toArray.size == its.toArray.size) = true then _ else _) _ _ s
  have hp := rev_pick its
  rw [← List.size_toArray] at hp
  rw [if_neg hno, hp]
  first
    | exact wpAny_bind (m := Builtin.Tuple.tupleExact _) (wpAny_newObj_type (wpAny_pure ⟨_, rfl, wpAny_pure h⟩) hok)
    | exact wpAny_bind (m := Builtin.Tuple.tupleExact _) (wpAny_newObj_type (wpAny_bind (wpAny_pure (wpAny_pure ⟨_, rfl, wpAny_pure h⟩))) hok)
    | exact wpAny_bind (wpAny_bind (m := Builtin.Tuple.tupleExact _) (wpAny_newObj_type (wpAny_pure (wpAny_pure ⟨_, rfl, wpAny_pure h⟩)) hok))
    | exact wpAny_bind (wpAny_bind (m := Builtin.Tuple.tupleExact _) (wpAny_newObj_type (wpAny_pure ⟨_, rfl, wpAny_pure h⟩) hok))
end
section
variable {X : Cx} {C : Cn}
theorem pe_revT {e : Expr} {te : TE} {k : Nat} {p1 p2 p3 pos : Pos} (he : PE X e te) : PE X (.Subscript e (.Slice none none (some (.UnaryOp .USub (.Constant (.int 1) k p1) p2)) p3) pos)
    (fun σ H Q => te σ H fun x H1 => ∃ a xs, x = .ref a ∧ SqT X.K H1 a xs ∧ ∀ p, H1 p = none → Q (.ref p) (upd H1 p (.tup xs.reverse))) := by
  refine ⟨fun pins s σ H Q I h => ?_⟩
  refine Subscript_ (thn (he.run pins s σ H _ I h) fun v s1 ⟨x, H1, I1, r1, a, xs, ex, hx, q⟩ => ?_)
  subst ex
  cases r1
  have hst : PO X (some (.UnaryOp .USub (.Constant (.int 1) k p1) p2)) (tPart (tUn (rU fun i => .int (-i)) (tC (.int 1)))) := po_some (pe_un un_neg pe_int)
  refine wpAny_Slice ?_
  rw [evalPart_none]
  refine wpAny_pure (wpAny_pure ?_)
  refine thn (hst.run pins s1 σ H1 (fun o H4 => o = some (-1) ∧ H4 = H1) I1 ⟨1, rfl, -1, rfl, rfl, rfl⟩) fun vs s4 ⟨o, H4, I4, ps, eo, e4⟩ => ?_
  subst eo e4
  have I5 : Inv X pins σ H4 { s4 with heap := s4.heap.push { cls := .type "slice", data := .fields #[.none, .none, vs] } } := I4.kept (t' := s4.toks) fun b ob q => Heap.get?_push_of_some _ q
  obtain ⟨its, r, ht, hz⟩ := I5.tuple hx
  have hlen := r.length
  show wpAny (model X.prog X.w) X.A (subscriptTail e (.Slice none none (some (.UnaryOp .USub (.Constant (.int 1) k p1) p2)) p3) (.ref a) (.ref s4.heap.objs.size)) (EP X pins σ Q) X.xe { s4 with heap := s4.heap.push { cls := .type "slice", data := .fields #[.none, .none, vs] } }
  refine tail_any (ops := [.ref a, .ref s4.heap.objs.size]) ht.typeIs PyProof.Rows.slot_tuple_getitem.lookup ?_ (by with_unfolding_all rfl)
  refine getItem_tup_rev ht (Heap.IsSliceOf.new _ .none .none vs) ps ?_ (by omega)
  refine ⟨.ref _, _, I5.laid (t' := s4.toks) (o := .tup xs.reverse) (fun b ob q => Heap.get?_push_of_some _ q) (Nat.le_refl _) ?_, rfl, q _ (I5.hok.fresh (Nat.le_refl _))⟩
  exact ⟨by rw [List.length_reverse]; exact hz, its.reverse, r.reverse, ⟨_, Heap.get?_push_size _ rfl, rfl, _, rfl⟩⟩
def dRev : D → Option (D × Bool)
  | .list ds => some (.list ds.reverse, true)
  | .tuple ds => some (.tuple ds.reverse, false)
  | _ => none
theorem peRev {a : Expr} {m : MV} {k : Nat} {p1 p2 p3 pos : Pos} (e : C.K = X.K) (ha : PE X a (tE C m)) : PE X (.Subscript a (.Slice none none (some (.UnaryOp .USub (.Constant (.int 1) k p1) p2)) p3) pos) (tE C (ev1 m dRev)) := by
  refine ⟨fun pins s σ H Q I h => ?_⟩
  obtain ⟨env, G, d, kd, env', hs, hm, hq⟩ := id h
  unfold ev1 at hm
  split at hm
  · rename_i a' ka e1 h1
    cases a' with
    | list ds =>
      refine (pe_revL ha).run pins s σ H Q I ?_
      obtain ⟨env2, G2, d2, k2, env2', hs2, hm2, hq2⟩ := h
      refine ⟨env, G, _, ka, e1, hs, h1, fun v H1 G1 hh hg s1 hv => ?_⟩
      obtain ⟨G3, g3, s3, rb⟩ := s1.useR hv
      obtain ⟨p, vs, ev, hd, hr⟩ := rb.list s3.gh
      refine ⟨p, vs, ev, rd_sq hd, fun l hl => ?_⟩
      cases hm
      exact res_lst (K := C.K) s3.gh (fun z H' G' st rv => hq z H' G' (hh.trans st.hh) (hg.trans (g3.trans st.gg)) (s3.step st) (rv.vr s3)) hr.reverse hl
    | tuple ds =>
      refine (pe_revT ha).run pins s σ H Q I ?_
      refine ⟨env, G, _, ka, e1, hs, h1, fun v H1 G1 hh hg s1 hv => ?_⟩
      obtain ⟨G3, g3, s3, rb⟩ := s1.useR hv
      obtain ⟨p, vs, ev, hd, hr⟩ := rb.tuple s3.gh
      refine ⟨p, vs, ev, by rw [← e]; exact hd, fun l hl => ?_⟩
      cases hm
      exact res_tup (K := C.K) s3.gh (fun z H' G' st rv => hq z H' G' (hh.trans st.hh) (hg.trans (g3.trans st.gg)) (s3.step st) (rv.vr s3)) hr.reverse hl
    | _ => cases hm
  · cases hm
/-! ### [elt for target in iter if ..] -/
def tEx (K : PySem.W.Frag) (N : List Str) (m : MV) : TE := fun σ H Q => ∃ C' : Cn, C'.K = K ∧ C'.N = N ∧ tE C' m σ H Q
def tTx (K : PySem.W.Frag) (N : List Str) (m : MT) : TT := fun σ H Q => ∃ C' : Cn, C'.K = K ∧ C'.N = N ∧ tT C' m σ H Q
def tGx (K : PySem.W.Frag) (N : List Str) (sl : List Nat) (m : MG) : TG := fun v σ H Q => ∃ C' : Cn, C'.K = K ∧ C'.N = N ∧ tG C' sl m v σ H Q
def mIfs : Option MT → MT
  | none => fun env => some (true, env)
  | some m => m
theorem ptsImp {X : Cx} {e : List Expr} {t t' : TT} (h : PTs X e t) (i : ∀ σ H Q, t' σ H Q → t σ H Q) : PTs X e t' := ⟨fun pins s σ H Q I q => h.run pins s σ H Q I (i σ H Q q)⟩
def OptT (X : Cx) (C : Cn) (ifs : List Expr) (m : Option MT) : Prop := match ifs, m with
  | [], none => True
  | [c], some m => PT X c (tT C m)
  | _, _ => False
/-- a context's block -/
abbrev Blk (X : Cx) (scope : Scope) (P : Cx → Prop) : Prop := ∀ (s : Shared) (H : Hp) (Ca : Addr) (cl : List (Str × Addr)) (fp : List Addr), P (X.blk s H scope (compEnvC scope cl Ca X.env) fp)
section
variable {elt tg iter : Expr} {ifs : List Expr} {scope : Scope} {own : List (Str × Nat)} {js sl : List Nat} {mi : ML} {asg : MG} {mt : Option MT} {me : MV}
theorem blkT (ht : Blk X scope fun Y => ∀ C', C'.K = X.K → C'.N = X.N → OptT Y C' ifs mt) : Blk X scope fun Y => PTs Y ifs (tTx X.K X.N (mIfs mt)) := by
  intro s H Ca cl fp
  have h := ht s H Ca cl fp
  cases ifs with
  | nil =>
    cases mt with
    | some _ => exact (h ⟨X.K, X.N, fun _ => none, fun _ => none⟩ rfl rfl).elim
    | none =>
      refine ptsImp pts_nil fun σ H Q ⟨C', _, _, q⟩ => ?_
      obtain ⟨env, G, b, env', hs, hm, hq⟩ := q
      cases hm
      exact hq H G (Same.refl _) (Same.refl _) hs
  | cons c r =>
    cases r with
    | cons _ _ => exact (h ⟨X.K, X.N, fun _ => none, fun _ => none⟩ rfl rfl).elim
    | nil =>
      cases mt with
      | none => exact (h ⟨X.K, X.N, fun _ => none, fun _ => none⟩ rfl rfl).elim
      | some m =>
        refine pts_one ⟨fun pins s σ H Q I ⟨C', e1, e2, q⟩ => ?_⟩
        exact (show PT _ c (tT C' m) from h C' e1 e2).run pins s σ H Q I q
theorem blkE (he : Blk X scope fun Y => ∀ C', C'.K = X.K → C'.N = X.N → PE Y elt (tE C' me)) : Blk X scope fun Y => PE Y elt (tEx X.K X.N me) := fun s H Ca cl fp =>
  ⟨fun pins s' σ H' Q I ⟨C', e1, e2, q⟩ => (he s H Ca cl fp C' e1 e2).run pins s' σ H' Q I q⟩
theorem blkG (hg : Blk X scope fun Y => ∀ C', C'.K = X.K → C'.N = X.N → PG Y tg (tG C' sl asg)) : Blk X scope fun Y => PG Y tg (tGx X.K X.N sl asg) := fun s H Ca cl fp =>
  ⟨fun pins s' σ H' v u Q I r ⟨C', e1, e2, q⟩ => (hg s H Ca cl fp C' e1 e2).run pins s' σ H' v u Q I r q⟩
theorem lc_read (e : C.K = X.K) (eN : C.N = X.N) (hsl : ∀ i ∈ sl, i ∈ own.map (·.2)) {σ : St} {H : Hp} {Q : VK} (q : tE C (mLc js (own.map (·.2)) mi asg (mIfs mt) me) σ H Q) :
    tLc (tI C mi) (tGx X.K X.N sl asg) (tTx X.K X.N (mIfs mt)) (tEx X.K X.N me) (own.map (·.2)) σ H Q :=
  tE_lc hsl (fun _ _ _ q => q) (fun C' h1 h2 _ _ _ _ q => ⟨C', h1.trans e, h2.trans eN, q⟩) (fun C' h1 h2 _ _ _ q => ⟨C', h1.trans e, h2.trans eN, q⟩) (fun C' h1 h2 _ _ _ q => ⟨C', h1.trans e, h2.trans eN, q⟩) q
theorem peLc {pos : Pos} (e : C.K = X.K) (eN : C.N = X.N) (hc : X.calm = true) (hN : X.N.Nodup) (hi : PI X tg iter (tI C mi)) (ok : BlkOk X.N X.env.scope scope own) (hsl : ∀ i ∈ sl, i ∈ own.map (·.2))
    (hg : Blk X scope fun Y => ∀ C', C'.K = X.K → C'.N = X.N → PG Y tg (tG C' sl asg)) (ht : Blk X scope fun Y => ∀ C', C'.K = X.K → C'.N = X.N → OptT Y C' ifs mt) (he : Blk X scope fun Y => ∀ C', C'.K = X.K → C'.N = X.N → PE Y elt (tE C' me)) (hp : plainE iter = true) :
    PE X (.ListComp elt [⟨tg, iter, ifs, 0⟩] scope pos) (tE C (mLc js (own.map (·.2)) mi asg (mIfs mt) me)) :=
  peImp (pe_lc hc hN hi ok (blkG hg) (blkT ht) (blkE he) (plain_fold hp X.env)) fun σ H Q q => lc_read e eN hsl q
/-- y = [..]: at once, or as any value -/
theorem psSetLc {i : Nat} {y : Str} {py pos spos : Pos} (e : C.K = X.K) (eN : C.N = X.N) (hc : X.calm = true) (hN : X.N.Nodup) (hi : PI X tg iter (tI C mi)) (ok : BlkOk X.N X.env.scope scope own) (hsl : ∀ i ∈ sl, i ∈ own.map (·.2))
    (hg : Blk X scope fun Y => ∀ C', C'.K = X.K → C'.N = X.N → PG Y tg (tG C' sl asg)) (ht : Blk X scope fun Y => ∀ C', C'.K = X.K → C'.N = X.N → OptT Y C' ifs mt) (he : Blk X scope fun Y => ∀ C', C'.K = X.K → C'.N = X.N → PE Y elt (tE C' me)) (hp : plainE iter = true)
    (hy : X.N[i]? = some y) (hx : Loc X.env.scope y) (hf : X.fn y = true ∨ X.env.scope.names.lookup y = some .local) (hk : X.env.scope.kind = .function) :
    PS X (.Assign [.Name y py] (.ListComp elt [⟨tg, iter, ifs, 0⟩] scope pos) spos) (tS C (mSet i (mLc js (own.map (·.2)) mi asg (mIfs mt) me))) := by
  have hb : X.env.blockKind = .function := by unfold PySem.Env.blockKind; rw [hk]; rfl
  by_cases hsw : (X.env.blockKind == .function && X.env.kindOf y == some .local && py.line == (Expr.ListComp elt [⟨tg, iter, ifs, 0⟩] scope pos).pos.line && !(scope.names.any fun (n, k) => n == y && (k == .local || k == .cell))) = true
  · have h1 : swapsWith (.ListComp elt [⟨tg, iter, ifs, 0⟩] scope pos) (some (.Name y py)) spos.line X.env = pure true := by
      unfold swapsWith
      dsimp only
      rw [hsw]
    have hyl : X.env.scope.names.lookup y = some .local := by
      simp only [Bool.and_eq_true] at hsw
      exact eq_of_beq hsw.1.1.2
    refine psImp (ps_setLc hc hN hy hyl h1 hi ok (blkG hg) (blkT ht) (blkE he) (plain_fold hp X.env)) fun Dn σ H q => ?_
    exact lc_read e eN hsl (tS_set q)
  · have h1 : swapsWith (.ListComp elt [⟨tg, iter, ifs, 0⟩] scope pos) (some (.Name y py)) spos.line X.env = pure false := by
      unfold swapsWith
      dsimp only
      rw [Bool.not_eq_true] at hsw
      rw [hsw]
    exact psImp (ps_set hN hy hx (peLc e eN hc hN hi ok hsl hg ht he hp) h1 hf) fun Dn σ H q => tS_set q
end
/-! ### xs.index(x) -/
mutual
theorem Rp.dp {K : PySem.W.Frag} {H : Hp} : ∀ (d : D) (v : V), d.canLay0 = true → Rp K H v d → Dp K H v d
  | .none, _, _, h => by cases h; exact .non
  | .bool b, _, _, h => by cases h; exact .bl b
  | .int i, _, _, h => by cases h; exact .int i
  | .str x, _, _, h => by cases h; exact .str x
  | .list ds, _, hc, h => by
    cases h with
    | lst hs ha => exact .lst (rd_sq hs) (RpAll.dp ds _ (by simpa [PyData.canLay0] using hc) ha)
  | .tuple ds, _, hc, h => by
    cases h with
    | tup hs ha => exact .tup hs (RpAll.dp ds _ (by simpa [PyData.canLay0] using hc) ha)
  | .dict ds, _, hc, h => by simp [PyData.canLay0] at hc
theorem RpAll.dp {K : PySem.W.Frag} {H : Hp} : ∀ (ds : List D) (vs : List V), PyData.canLayAll0 ds = true → RpAll K H vs ds → DpAll K H vs ds
  | [], _, _, h => by cases h; exact .nil
  | d :: ds, _, hc, h => by
    have hc' : d.canLay0 = true ∧ PyData.canLayAll0 ds = true := by simpa [PyData.canLayAll0] using hc
    cases h with
    | cons h1 h2 => exact .cons (Rp.dp d _ hc'.1 h1) (RpAll.dp ds _ hc'.2 h2)
end
def firstIx (p : D → Bool) : List D → Option Nat
  | [] => none
  | d :: ds => if p d = true then some 0 else (firstIx p ds).map (· + 1)
theorem firstIx_spec {p : D → Bool} : ∀ {ds : List D} {j : Nat}, firstIx p ds = some j → (∃ z, ds[j]? = some z ∧ p z = true) ∧ ∀ (m : Nat) z, m < j → ds[m]? = some z → p z = false
  | [], j, h => by cases h
  | d :: ds, j, h => by
    unfold firstIx at h
    split at h
    · rename_i hp
      cases h
      exact ⟨⟨d, rfl, hp⟩, fun m z hm => absurd hm (Nat.not_lt_zero _)⟩
    · rename_i hp
      cases e : firstIx p ds with
      | none => rw [e] at h; cases h
      | some i =>
        rw [e] at h
        cases h
        obtain ⟨h1, h2⟩ := firstIx_spec e
        refine ⟨h1, fun m z hm hz => ?_⟩
        cases m with
        | zero => cases hz; simpa using hp
        | succ m =>
          have hm' : m + 1 < i + 1 := hm
          exact h2 m z (by omega) hz
def dIndex : D → D → Option (D × Bool)
  | .list ds, d => if SeqAt.shaped d = true ∧ SeqAt.shaped (.list ds) = true then (match firstIx (fun z => PyData.eqv z d) ds with
    | some j => some (.int j, false)
    | none => none) else none
  | _, _ => none
theorem mt_ixD (hu : X.A.units + 65 < cLine) : MtR X "list.index" (fun x xs H Q => ∃ y, xs = [y] ∧ rD X.K dIndex x y H Q) := by
  intro pins s σ H x xs v us Q I rx rv ⟨y, ey, G, a, b, c, fr, gh, ra, rb, hg, q⟩
  unfold dIndex at hg
  split at hg
  · split at hg
    · rename_i hs
      split at hg
      · rename_i j hj
        cases hg
        obtain ⟨⟨z, e1, e2⟩, e3⟩ := firstIx_spec hj
        obtain ⟨p, vs, ex, hd, hr⟩ := ra.list gh
        subst ex
        refine mt_indexD hu pins s σ H _ xs v us Q I rx rv ⟨p, y, b, _, j, z, rfl, ey, ?_, ?_, hs.2, hs.1, e1, e2, e3, res_sc gh q (.int _)⟩
        · exact Rp.dp _ _ (SeqAt.canLay_of_shaped hs.2) (ra.rp gh)
        · exact Rp.dp _ _ (SeqAt.canLay_of_shaped hs.1) (rb.rp gh)
      · cases hg
    · cases hg
  · cases hg
theorem peIndex {o a : Expr} {mo ma : MV} {apos cpos : Pos} (e : C.K = X.K) (hu : X.A.units + 65 < cLine) (ho : PE X o (tE C mo)) (ha : PE X a (tE C ma)) (hp : plainE a = true) (hb : noSuper o = true) (hline : (apos.endLine == cpos.line) = true) :
    PE X (.Call (.Attribute o "index" apos) [a] [] cpos) (tE C (ev2 mo ma dIndex)) := by
  have hp' : [a].all plainE = true := by simp [hp]
  have hst := plain_stars hp' X.env cpos
  refine peImp (pe_bm PySem.F.plainAttrs_list PySem.F.slot_list_index PySem.F.type_list_index (mt_ixD hu) ho (pa_cons ha pa_nil (plain_star hp [] X.env)) (noSuper_base hb _ _) ?_ hline (plain_star hp [] X.env) rfl) fun σ H Q q => ?_
  · rw [hst.2]
    rfl
  · obtain ⟨env, G, d, k, env', hs, hm, hq⟩ := q
    unfold ev2 at hm
    split at hm
    · rename_i d1 k1 e1 h1
      split at hm
      · rename_i d2 k2 e2 h2
        split at hm
        · rename_i c fr h3
          cases hm
          refine ⟨env, G, d1, k1, e1, hs, h1, fun v H1 G1 hh hg s1 hv => ?_⟩
          obtain ⟨G2, g2, s2, rb⟩ := s1.useR hv
          have hl : ∃ ds, d1 = .list ds := by
            unfold dIndex at h3
            split at h3
            · exact ⟨_, rfl⟩
            · cases h3
          obtain ⟨ds, rfl⟩ := hl
          obtain ⟨p, vs, ev, hd, hr⟩ := rb.list s2.gh
          refine ⟨?_, e1, G2, d2, k2, env', s2, h2, fun u H3 G3 hh3 hg3 s3 hu3 => ?_⟩
          · subst ev
            exact .inl ⟨rfl, vs, rd_sq hd⟩
          · obtain ⟨G4, g4, s4, rb4⟩ := s3.useR hu3
            refine ⟨u, rfl, G4, _, d2, d, fr, s4.gh, ?_, ?_, h3, fun z H' G' st rv => ?_⟩
            · rw [← e]; exact rb.mono (hg3.trans g4) hh3
            · rw [← e]; exact rb4
            · rw [← e] at rv
              exact hq z H' G' (hh.trans (hh3.trans st.hh)) (hg.trans (g2.trans (hg3.trans (g4.trans st.gg)))) (s4.step st) (rv.vr s4)
        · cases hm
      · cases hm
    · cases hm
/-! ### while -/
def whLoop (c : MT) (body : MS) : Nat → MS
  | 0 => fun _ => none
  | n + 1 => fun env => match c env with
    | some (true, e) => (match body e with
      | some (.nx e2) => whLoop c body n e2
      | some (.ct e2) => whLoop c body n e2
      | some (.bk e2) => some (.nx e2)
      | some (.rt d fr) => some (.rt d fr)
      | none => none)
    | some (false, e) => some (.nx e)
    | none => none
theorem psWhile {c : Expr} {body : List Stmt} {mc : MT} {mb : MS} {pos : Pos} {n : Nat} (hp : PassesOwn (model X.prog X.w) X.A X.env X.xe) (hc : PT X c (tT C mc)) (hb : PSs X body (tS C mb)) : PS X (.While c body [] pos) (tS C (whLoop mc mb n)) := by
  refine psImp (ps_while hp hc hb) fun Dn σ H q => ?_
  obtain ⟨env, G, fl, hs, hm, hq⟩ := q
  refine ⟨fun m σ' H' => ∃ en G', SR C en σ' H' G' ∧ Same G G' ∧ whLoop mc mb m en = some fl, ⟨n, env, G, hs, Same.refl _, hm⟩, fun m σ' H' ⟨en, G', sW, gW, hW⟩ => ?_⟩
  cases m with
  | zero => cases hW
  | succ m =>
    simp only [whLoop] at hW
    split at hW
    · rename_i e1 h1
      refine ⟨en, G', _, e1, sW, h1, fun H2 G2 hh hg s2 => ?_⟩
      dsimp only
      rw [if_pos rfl]
      refine ⟨fun σ5 H5 => ∃ en5 G5, SR C en5 σ5 H5 G5 ∧ Same G G5 ∧ whLoop mc mb m en5 = some fl, fun σ5 H5 h5 => ⟨m, Nat.lt_succ_self _, h5⟩, ?_⟩
      split at hW
      · rename_i e2 h2
        exact ⟨e1, G2, _, s2, h2, fun σ' H' G4 g4 s4 => ⟨e2, G4, s4, gW.trans (hg.trans g4), hW⟩⟩
      · rename_i e2 h2
        exact ⟨e1, G2, _, s2, h2, fun σ' H' G4 g4 s4 => ⟨e2, G4, s4, gW.trans (hg.trans g4), hW⟩⟩
      · rename_i e2 h2
        cases hW
        exact ⟨e1, G2, _, s2, h2, fun σ' H' G4 g4 s4 => hq σ' H' G4 (gW.trans (hg.trans g4)) s4⟩
      · rename_i d fr h2
        cases hW
        exact ⟨e1, G2, _, s2, h2, hq⟩
      · cases hW
    · rename_i e1 h1
      cases hW
      refine ⟨en, G', _, e1, sW, h1, fun H2 G2 hh hg s2 => ?_⟩
      dsimp only
      rw [if_neg (by decide)]
      exact hq σ' H2 G2 (gW.trans hg) s2
    · cases hW
/-! ### x op= e, of ints -/
def dAug : Operator → D → D → Option D
  | .Add, .int i, .int j => some (.int (i + j))
  | .Sub, .int i, .int j => some (.int (i - j))
  | .Mult, .int i, .int j => if okMul i j = true then some (.int (i * j)) else none
  | _, _, _ => none
def mAug (i : Nat) (op : Operator) (m : MV) : MS := fun env => match env[i]? with
  | some (some ⟨.int a, false⟩) => (match m env with
    | some (b, _, e) => (match dAug op (.int a) b with
      | some c => some (.nx (e.set i (some ⟨c, false⟩)))
      | none => none)
    | none => none)
  | _ => none
theorem pip (op : Operator) : PIp X op (fun x y H Q => ∃ G a b c, RB X.K G H x a ∧ RB X.K G H y b ∧ dAug op a b = some c ∧ ∀ z, (∀ G, Rp X.K G z c) → Q z H) := by
  intro pins s σ H x y v u Q I rx ry ⟨G, a, b, c, ra, rb, hg, q⟩
  unfold dAug at hg
  split at hg
  · cases hg
    exact iop_add pins s σ H x y v u Q I rx ry ⟨_, _, ra.int, rb.int, q _ fun _ => .int _⟩
  · cases hg
    exact iop_sub pins s σ H x y v u Q I rx ry ⟨_, _, ra.int, rb.int, q _ fun _ => .int _⟩
  · split at hg
    · rename_i hz
      cases hg
      exact iop_mul pins s σ H x y v u Q I rx ry ⟨_, _, ra.int, rb.int, okMul_of hz, q _ fun _ => .int _⟩
    · cases hg
  · cases hg
theorem psAug {i : Nat} {x : Str} {a : Expr} {op : Operator} {m : MV} {pos pos' : Pos} (e : C.K = X.K) (hN : X.N.Nodup) (hi : X.N[i]? = some x) (hx : Loc X.env.scope x) (hf : X.fn x = true ∨ X.env.scope.names.lookup x = some .local) (ha : PE X a (tE C m))
    (hd : (x == ("__debug__" : Str)) = false) : PS X (.AugAssign (.Name x pos') op a pos) (tS C (mAug i op m)) := by
  refine psImp (ps_aug hN hi hx ha (pip op) (hf := hf)) fun Dn σ H q => ?_
  obtain ⟨env, G, fl, hs, hm, hq⟩ := q
  unfold mAug at hm
  split at hm
  · rename_i a0 h0
    split at hm
    · rename_i b k e1 h1
      split at hm
      · rename_i c h2
        cases hm
        obtain ⟨v0, hv0, rv0⟩ := hs.sl i _ h0
        refine ⟨v0, hv0, env, G, b, k, e1, hs, h1, fun u H1 G1 hh hg s1 hu => ?_⟩
        obtain ⟨G2, g2, s2, rb⟩ := s1.useR hu
        refine ⟨G2, .int a0, b, c, ?_, ?_, h2, fun z hz => ?_⟩
        · rw [← e]
          cases rv0
          exact .inl (.int _)
        · rw [← e]; exact rb
        · exact hq _ H1 G2 (hg.trans g2) (s2.setS (by rw [e]; exact hz G2))
      · cases hm
    · cases hm
  · cases hm
end
end HC
set_option Elab.async false
set_option linter.all false
set_option maxRecDepth 100000
set_option maxHeartbeats 1000000
set_option autoImplicit false
/-! HC, part W: list comprehensions of two clauses. -/
namespace HC
open PySem PySem.Spec PyProof.Rows L2
def lc2Loop (inn : Env) (asg : MG) (tt : MT) (mi1 : ML) (vs1 : List Nat) (asg1 : MG) (tt1 : MT) (te : MV) : List D → Option (List D)
  | [] => some []
  | d :: ds => (match asg d inn with
    | some e1 => (match tt e1 with
      | some (true, e2) => (match mi1 e2 with
        | some (ds1, e3) => (match lcLoop (inner vs1 e3) asg1 tt1 te ds1 with
          | some ys => (match lc2Loop inn asg tt mi1 vs1 asg1 tt1 te ds with
            | some zs => some (ys ++ zs)
            | none => none)
          | none => none)
        | none => none)
      | some (false, _) => lc2Loop inn asg tt mi1 vs1 asg1 tt1 te ds
      | none => none)
    | none => none)
def mLc2 (js vs : List Nat) (mi : ML) (asg : MG) (tt : MT) (mi1 : ML) (vs1 : List Nat) (asg1 : MG) (tt1 : MT) (te : MV) : MV := fun env => match mi env with
  | some (ds, e) => (match lc2Loop (inner vs (shIdx js e)) asg tt mi1 vs1 asg1 tt1 te ds with
    | some ys => if ys.length ≤ sizeLine then some (.list ys, .fr, shIdx js e) else none
    | none => none)
  | none => none
section
variable {X : Cx} {C : Cn}
/-- what stood at first may be told less of -/
theorem SR.less {env : Env} {σ : St} {H G H0' : Hp} (r : SR C env σ H G) (h : ∀ a o, H0' a = some o → C.H0 a = some o) : SR { C with H0 := H0' } env σ H G where
  h0 := fun a o e => r.h0 a o (h a o e)
  g0 := fun a ha => r.g0 a (by
    cases q : H0' a with
    | none => exact absurd q ha
    | some o => rw [h a o q]; exact fun z => nomatch z)
  gh := r.gh
  len := r.len
  ln := r.ln
  sl := r.sl
  ow := fun i d e => by
    obtain ⟨p, o, a1, a2, a3⟩ := r.ow i d e
    refine ⟨p, o, a1, ?_, a3⟩
    cases q : H0' p with
    | none => exact q
    | some u => rw [h p u q] at a2; cases a2
  dj := r.dj
theorem tE_lc2 {js vs sl vs1 : List Nat} {mi mi1 : ML} {asg asg1 : MG} {tt tt1 : MT} {te : MV} {wi wi1 : TI} {g g1 : TG} {t2 t21 : TT} {t3 : TE} (hsl : ∀ i ∈ sl, i ∈ vs)
    (hi : ∀ σ H R, tI C mi σ H R → wi σ H R) (hg : ∀ (C' : Cn), C'.K = C.K → C'.N = C.N → ∀ v σ H Q, tG C' sl asg v σ H Q → g v σ H Q)
    (ht : ∀ (C' : Cn), C'.K = C.K → C'.N = C.N → ∀ σ H Q, tT C' tt σ H Q → t2 σ H Q)
    (hi1 : ∀ (C' : Cn), C'.K = C.K → C'.N = C.N → ∀ σ H R, tI C' mi1 σ H R → wi1 σ H R) (hg1 : ∀ (C' : Cn), C'.K = C.K → C'.N = C.N → ∀ v σ H Q, tG C' vs1 asg1 v σ H Q → g1 v σ H Q)
    (ht1 : ∀ (C' : Cn), C'.K = C.K → C'.N = C.N → ∀ σ H Q, tT C' tt1 σ H Q → t21 σ H Q) (he : ∀ (C' : Cn), C'.K = C.K → C'.N = C.N → ∀ σ H Q, tE C' te σ H Q → t3 σ H Q)
    {σ : St} {H : Hp} {Q : VK} (h : tE C (mLc2 js vs mi asg tt mi1 vs1 asg1 tt1 te) σ H Q) : tLc2 wi g t2 wi1 g1 t21 t3 vs vs1 σ H Q := by
  obtain ⟨env, G, d, k, env', hs, hm, hq⟩ := h
  unfold mLc2 at hm
  split at hm
  · rename_i ds e1 h1
    split at hm
    · rename_i ys h2
      split at hm
      · rename_i hsz
        cases hm
        refine hi σ H _ ⟨env, G, ds, e1, hs, h1, fun J H1 G1 hh hg1' s1 ok => ?_⟩
        obtain ⟨G2, g2, s2⟩ := SR.shIdx js s1
        have ok2 := ok.mono g2
        intro D hD
        have nD : C.H0 D = none := by
          cases q : C.H0 D with
          | none => rfl
          | some u => rw [s2.h0 _ _ q] at hD; cases hD
        have oD : ∀ (i : Nat) e, (shIdx js e1)[i]? = some (some ⟨e, true⟩) → σ[i]? ≠ some (some (.ref D)) := fun i e he hz => by
          obtain ⟨p, o, a1, _, _, a4, _⟩ := s2.ow i e he
          rw [hz] at a1; cases a1; rw [hD] at a4; cases a4
        refine ⟨fun i m H' => ∃ G' acc zs rest, SR C (shIdx js e1) σ H' G' ∧ Same G2 G' ∧ G' D = none ∧ H' D = some (.lst acc) ∧ RpAll C.K G' acc zs ∧ i ≤ ds.length ∧ m = ds.length - i ∧ lc2Loop (inner vs (shIdx js e1)) asg tt mi1 vs1 asg1 tt1 te (ds.drop i) = some rest ∧ zs ++ rest = ys ∧
            (∀ a, a ≠ D → H1 a ≠ none → H' a = H1 a), ⟨ds.length, G2, [], [], ys, ?_, Same.refl _, s2.gh.free hD, upd_same, .nil, Nat.zero_le _, rfl, h2, rfl, fun a na _ => upd_ne na⟩, fun i m H' hW => ?_⟩
        · exact s2.updD nD (s2.gh.free hD) oD
        · obtain ⟨G', acc, zs, rest, sW, gW, dG, dH, rA, hi', hm', hr, hz, hk⟩ := hW
          by_cases hlt : i < ds.length
          · right
            have hd : ds[i]? = some ds[i] := List.getElem?_eq_getElem hlt
            refine ⟨ok2.go i _ H' G' hd gW sW.gh, ?_⟩
            rw [List.drop_eq_getElem_cons hlt] at hr
            simp only [lc2Loop] at hr
            refine ⟨fun H5 => ∃ G5 acc5 zs5 rest5, SR C (shIdx js e1) σ H5 G5 ∧ Same G2 G5 ∧ G5 D = none ∧ H5 D = some (.lst acc5) ∧ RpAll C.K G5 acc5 zs5 ∧ lc2Loop (inner vs (shIdx js e1)) asg tt mi1 vs1 asg1 tt1 te (ds.drop (i + 1)) = some rest5 ∧ zs5 ++ rest5 = ys ∧ (∀ a, a ≠ D → H1 a ≠ none → H5 a = H1 a),
              fun H5 ⟨G5, acc5, zs5, rest5, a1, a2, a3, a4, a5, a7, a8, a9⟩ => ⟨ds.length - (i + 1), by omega, G5, acc5, zs5, rest5, a1, a2, a3, a4, a5, hlt, rfl, a7, a8, a9⟩, fun x H3 hy => ?_⟩
            obtain ⟨G3, st3, rx⟩ := ok2.yl i _ H' G' x H3 hd gW sW.gh hy
            have sW3 := sW.step st3
            have dH3 : H3 D = some (.lst acc) := st3.hh _ _ dH
            have dG3 : G3 D = none := by rw [st3.nw D (by rw [dH]; exact fun z => nomatch z)]; exact dG
            have hk3 : ∀ a, a ≠ D → H1 a ≠ none → H3 a = H1 a := fun a na h1a => by
              cases q : H1 a with
              | none => exact absurd q h1a
              | some u => exact st3.hh a u (by rw [hk a na h1a]; exact q)
            split at hr
            · rename_i en1 hA
              refine hg { C with H0 := H3, G0 := G3 } rfl rfl _ _ _ _ ⟨_, G3, _, en1, sW3.inner vs, rx, hA, fun σ2 sT wT => ⟨(wT vs hsl).trans (wipe_wipe σ vs), ?_⟩⟩
              cases hT : tt en1 with
              | none => rw [hT] at hr; cases hr
              | some q =>
                obtain ⟨b, en2⟩ := q
                rw [hT] at hr
                refine ht { C with H0 := H3, G0 := G3 } rfl rfl _ _ _ ⟨en1, G3, b, en2, sT, hT, fun H6 G6 hh6 gg6 s6 => ?_⟩
                cases b with
                | false =>
                  dsimp only at hr ⊢
                  rw [if_neg (by decide)]
                  have st6 : Step H3 G3 H6 G6 := SR.grown (C := C) (env := en2) (σ := σ2) s6 sW3.gh
                  refine ⟨G6, acc, zs, rest, sW3.step st6, gW.trans (st3.gg.trans st6.gg), ?_, st6.hh _ _ dH3, RpAll.mono (st3.gg.trans st6.gg) _ _ rA, hr, hz, fun a na h1a => ?_⟩
                  · rw [st6.nw D (by rw [dH3]; exact fun z => nomatch z)]; exact dG3
                  · cases q : H1 a with
                    | none => exact absurd q h1a
                    | some u => exact st6.hh a u (by rw [hk3 a na h1a]; exact q)
                | true =>
                  dsimp only at hr ⊢
                  rw [if_pos rfl]
                  cases hM : mi1 en2 with
                  | none => rw [hM] at hr; cases hr
                  | some q =>
                    obtain ⟨ds1, en3⟩ := q
                    rw [hM] at hr
                    dsimp only at hr
                    cases hL : lcLoop (inner vs1 en3) asg1 tt1 te ds1 with
                    | none => rw [hL] at hr; cases hr
                    | some ys1 =>
                      rw [hL] at hr
                      dsimp only at hr
                      cases hR : lc2Loop (inner vs (shIdx js e1)) asg tt mi1 vs1 asg1 tt1 te (ds.drop (i + 1)) with
                      | none => rw [hR] at hr; cases hr
                      | some rest' =>
                        rw [hR] at hr
                        cases hr
                        refine hi1 { C with H0 := H3, G0 := G3 } rfl rfl _ _ _ ⟨en2, G6, ds1, en3, s6, hM, fun J1 H4 G4 hh4 gg4 s4 ok1 => ?_⟩
                        have st4 : Step H3 G3 H4 G4 := SR.grown (C := C) (env := en3) (σ := σ2) s4 sW3.gh
                        have s4' := s4.less (H0' := fun a => if a = D then none else H3 a) fun a o e => by
                          split at e
                          · cases e
                          · exact e
                        have nD4 : (fun a => if a = D then none else H3 a) D = none := if_pos rfl
                        have oD4 : ∀ (i : Nat) e, en3[i]? = some (some ⟨e, true⟩) → σ2[i]? ≠ some (some (.ref D)) := fun i e he hz => by
                          obtain ⟨p, o, a1, a2, _⟩ := s4.ow i e he
                          rw [hz] at a1
                          cases a1
                          have a2' : H3 D = none := a2
                          rw [dH3] at a2'
                          cases a2'
                        have dH4 : H4 D = some (.lst acc) := st4.hh _ _ dH3
                        have dG4 : G4 D = none := by rw [st4.nw D (by rw [dH3]; exact fun z => nomatch z)]; exact dG3
                        refine ⟨fun j k H' => ∃ G' acc1 zs1 rest1, SR C (shIdx js e1) σ H' G' ∧ SR { C with H0 := (fun a => if a = D then none else H3 a), G0 := G3 } en3 σ2 H' G' ∧ Same G4 G' ∧ G' D = none ∧ H' D = some (.lst acc1) ∧ RpAll C.K G' acc1 zs1 ∧ j ≤ ds1.length ∧ k = ds1.length - j ∧
                            lcLoop (inner vs1 en3) asg1 tt1 te (ds1.drop j) = some rest1 ∧ zs1 ++ rest1 = zs ++ ys1 ∧ (∀ a, a ≠ D → H1 a ≠ none → H' a = H1 a),
                          ⟨ds1.length, G4, acc, zs, ys1, sW3.step st4, s4', Same.refl _, dG4, dH4, RpAll.mono (st3.gg.trans st4.gg) _ _ rA, Nat.zero_le _, rfl, hL, rfl, fun a na h1a => ?_⟩, fun j k Hj hW1 => ?_⟩
                        · cases q : H1 a with
                          | none => exact absurd q h1a
                          | some u => exact st4.hh a u (by rw [hk3 a na h1a]; exact q)
                        · obtain ⟨Gj, acc1, zs1, rest1, sC, sB, gj, dGj, dHj, rAj, hj', hk', hrj, hzj, hkj⟩ := hW1
                          by_cases hltj : j < ds1.length
                          · right
                            have hdj : ds1[j]? = some ds1[j] := List.getElem?_eq_getElem hltj
                            refine ⟨ok1.go j _ Hj Gj hdj gj sC.gh, ?_⟩
                            rw [List.drop_eq_getElem_cons hltj] at hrj
                            simp only [lcLoop] at hrj
                            refine ⟨fun H5 => ∃ G5 acc5 zs5 rest5, SR C (shIdx js e1) σ H5 G5 ∧ SR { C with H0 := (fun a => if a = D then none else H3 a), G0 := G3 } en3 σ2 H5 G5 ∧ Same G4 G5 ∧ G5 D = none ∧ H5 D = some (.lst acc5) ∧ RpAll C.K G5 acc5 zs5 ∧ lcLoop (inner vs1 en3) asg1 tt1 te (ds1.drop (j + 1)) = some rest5 ∧ zs5 ++ rest5 = zs ++ ys1 ∧ (∀ a, a ≠ D → H1 a ≠ none → H5 a = H1 a),
                              fun H5 ⟨G5, acc5, zs5, rest5, a1, a1', a2, a3, a4, a5, a7, a8, a9⟩ => ⟨ds1.length - (j + 1), by omega, G5, acc5, zs5, rest5, a1, a1', a2, a3, a4, a5, hltj, rfl, a7, a8, a9⟩, fun x1 H5 hy1 => ?_⟩
                            obtain ⟨G5, st5, rx1⟩ := ok1.yl j _ Hj Gj x1 H5 hdj gj sC.gh hy1
                            have sC5 := sC.step st5
                            have sB5 := sB.step st5
                            have dH5 : H5 D = some (.lst acc1) := st5.hh _ _ dHj
                            have dG5 : G5 D = none := by rw [st5.nw D (by rw [dHj]; exact fun z => nomatch z)]; exact dGj
                            have hk5 : ∀ a, a ≠ D → H1 a ≠ none → H5 a = H1 a := fun a na h1a => by
                              cases q : H1 a with
                              | none => exact absurd q h1a
                              | some u => exact st5.hh a u (by rw [hkj a na h1a]; exact q)
                            split at hrj
                            · rename_i en4 hA1
                              refine hg1 { C with H0 := H5, G0 := G5 } rfl rfl _ _ _ _ ⟨_, G5, _, en4, sB5.inner vs1, rx1, hA1, fun σ3 sT1 wT1 => ⟨(wT1 vs1 (fun _ h => h)).trans (wipe_wipe σ2 vs1), ?_⟩⟩
                              cases hT1 : tt1 en4 with
                              | none => rw [hT1] at hrj; cases hrj
                              | some q =>
                                obtain ⟨b1, en5⟩ := q
                                rw [hT1] at hrj
                                refine ht1 { C with H0 := H5, G0 := G5 } rfl rfl _ _ _ ⟨en4, G5, b1, en5, sT1, hT1, fun H8 G8 hh8 gg8 s8 => ?_⟩
                                have st8 : Step H5 G5 H8 G8 := SR.grown (C := C) (env := en5) (σ := σ3) s8 sC5.gh
                                cases b1 with
                                | false =>
                                  dsimp only at hrj ⊢
                                  rw [if_neg (by decide)]
                                  refine ⟨G8, acc1, zs1, rest1, sC5.step st8, sB5.step st8, gj.trans (st5.gg.trans st8.gg), ?_, st8.hh _ _ dH5, RpAll.mono (st5.gg.trans st8.gg) _ _ rAj, hrj, hzj, fun a na h1a => ?_⟩
                                  · rw [st8.nw D (by rw [dH5]; exact fun z => nomatch z)]; exact dG5
                                  · cases q : H1 a with
                                    | none => exact absurd q h1a
                                    | some u => exact st8.hh a u (by rw [hk5 a na h1a]; exact q)
                                | true =>
                                  dsimp only at hrj ⊢
                                  rw [if_pos rfl]
                                  cases hE : te en5 with
                                  | none => rw [hE] at hrj; cases hrj
                                  | some q =>
                                    obtain ⟨y, ky, en6⟩ := q
                                    rw [hE] at hrj
                                    dsimp only at hrj
                                    split at hrj
                                    · rename_i rest2 hR2
                                      cases hrj
                                      refine he { C with H0 := H5, G0 := G5 } rfl rfl _ _ _ ⟨en5, G8, y, ky, en6, s8, hE, fun v H9 G9 hh9 gg9 s9 hv => ?_⟩
                                      obtain ⟨Ga, ga, sa, ry⟩ := s9.useS hv
                                      have sta : Step H5 G5 H9 Ga := SR.grown (C := C) (env := en5) (σ := σ3) sa sC5.gh
                                      have dGa : Ga D = none := by
                                        rw [sta.nw D (by rw [dH5]; exact fun z => nomatch z)]; exact dG5
                                      have lacc := rAj.length
                                      have ltot : (zs1 ++ y :: rest2).length ≤ ys.length := by
                                        rw [hzj, ← hz, List.length_append, List.length_append, List.length_append]
                                        omega
                                      rw [List.length_append, List.length_cons] at ltot
                                      refine ⟨acc1, sta.hh _ _ dH5, by omega, Ga, acc1 ++ [v], zs1 ++ [y], rest2, (sC5.step sta).updD nD dGa oD, (sB5.step sta).updD nD4 dGa oD4, gj.trans (st5.gg.trans sta.gg), dGa, upd_same, ?_, hR2, by rw [← hzj]; simp, fun a na h1a => ?_⟩
                                      · exact (RpAll.mono (st5.gg.trans sta.gg) _ _ rAj).snoc ry
                                      · rw [upd_ne na]
                                        cases q : H1 a with
                                        | none => exact absurd q h1a
                                        | some u => exact sta.hh a u (by rw [hk5 a na h1a]; exact q)
                                    · cases hrj
                            · cases hrj
                          · left
                            have ej : j = ds1.length := by omega
                            subst ej
                            rw [List.drop_length] at hrj
                            cases hrj
                            rw [List.append_nil] at hzj
                            exact ⟨ok1.st Hj Gj gj sC.gh, Gj, acc1, zs1, rest', sC, gW.trans (st3.gg.trans (st4.gg.trans gj)), dGj, dHj, rAj, rfl, by rw [hzj, List.append_assoc]; exact hz, hkj⟩
            · cases hr
          · left
            have ei : i = ds.length := by omega
            subst ei
            rw [List.drop_length] at hr
            cases hr
            rw [List.append_nil] at hz
            subst hz
            refine ⟨ok2.st H' G' gW sW.gh, hq (.ref D) H' G' (fun a u e => ?_) (hg1'.trans (g2.trans gW)) sW ⟨D, _, rfl, nD, dG, dH, .inl ⟨acc, zs, rfl, rfl, rA⟩, oD⟩⟩
            have e1' := hh a u e
            have na : a ≠ D := ne_of_none e1' hD
            rw [hk a na (by rw [e1']; exact fun z => nomatch z)]
            exact e1'
      · cases hm
    · cases hm
  · cases hm
def tIx (K : PySem.W.Frag) (N : List Str) (m : ML) : TI := fun σ H R => ∃ C' : Cn, C'.K = K ∧ C'.N = N ∧ tI C' m σ H R
section
variable {elt tg iter tg1 iter1 : Expr} {ifs ifs1 : List Expr} {scope : Scope} {own : List (Str × Nat)} {js sl vs1 : List Nat} {mi mi1 : ML} {asg asg1 : MG} {mt mt1 : Option MT} {me : MV}
theorem blkI (hi : Blk X scope fun Y => ∀ C', C'.K = X.K → C'.N = X.N → PI Y tg iter (tI C' mi)) : Blk X scope fun Y => PI Y tg iter (tIx X.K X.N mi) := fun s H Ca cl fp =>
  ⟨fun pins s' σ H' R I ⟨C', e1, e2, q⟩ => (hi s H Ca cl fp C' e1 e2).run pins s' σ H' R I q⟩
theorem lc2_read (e : C.K = X.K) (eN : C.N = X.N) (hsl : ∀ i ∈ sl, i ∈ own.map (·.2)) {σ : St} {H : Hp} {Q : VK} (q : tE C (mLc2 js (own.map (·.2)) mi asg (mIfs mt) mi1 vs1 asg1 (mIfs mt1) me) σ H Q) :
    tLc2 (tI C mi) (tGx X.K X.N sl asg) (tTx X.K X.N (mIfs mt)) (tIx X.K X.N mi1) (tGx X.K X.N vs1 asg1) (tTx X.K X.N (mIfs mt1)) (tEx X.K X.N me) (own.map (·.2)) vs1 σ H Q :=
  tE_lc2 hsl (fun _ _ _ q => q) (fun C' h1 h2 _ _ _ _ q => ⟨C', h1.trans e, h2.trans eN, q⟩) (fun C' h1 h2 _ _ _ q => ⟨C', h1.trans e, h2.trans eN, q⟩) (fun C' h1 h2 _ _ _ q => ⟨C', h1.trans e, h2.trans eN, q⟩) (fun C' h1 h2 _ _ _ _ q => ⟨C', h1.trans e, h2.trans eN, q⟩) (fun C' h1 h2 _ _ _ q => ⟨C', h1.trans e, h2.trans eN, q⟩) (fun C' h1 h2 _ _ _ q => ⟨C', h1.trans e, h2.trans eN, q⟩) q
structure Lc2Ok (X : Cx) (C : Cn) (elt tg iter tg1 iter1 : Expr) (ifs ifs1 : List Expr) (scope : Scope) (own : List (Str × Nat)) (sl vs1 : List Nat) (mi mi1 : ML) (asg asg1 : MG) (mt mt1 : Option MT) (me : MV) : Prop where
  hi : PI X tg iter (tI C mi)
  ok : BlkOk X.N X.env.scope scope own
  hsl : ∀ i ∈ sl, i ∈ own.map (·.2)
  hv : ∀ i ∈ vs1, i ∈ own.map (·.2)
  hg : Blk X scope fun Y => ∀ C', C'.K = X.K → C'.N = X.N → PG Y tg (tG C' sl asg)
  ht : Blk X scope fun Y => ∀ C', C'.K = X.K → C'.N = X.N → OptT Y C' ifs mt
  hi1 : Blk X scope fun Y => ∀ C', C'.K = X.K → C'.N = X.N → PI Y tg1 iter1 (tI C' mi1)
  hg1 : Blk X scope fun Y => ∀ C', C'.K = X.K → C'.N = X.N → PG Y tg1 (tG C' vs1 asg1)
  ht1 : Blk X scope fun Y => ∀ C', C'.K = X.K → C'.N = X.N → OptT Y C' ifs1 mt1
  he : Blk X scope fun Y => ∀ C', C'.K = X.K → C'.N = X.N → PE Y elt (tE C' me)
  hp : plainE iter = true
  hp1 : plainE iter1 = true
theorem peLc2 {pos : Pos} (e : C.K = X.K) (eN : C.N = X.N) (hc : X.calm = true) (hN : X.N.Nodup) (L : Lc2Ok X C elt tg iter tg1 iter1 ifs ifs1 scope own sl vs1 mi mi1 asg asg1 mt mt1 me) :
    PE X (.ListComp elt [⟨tg, iter, ifs, 0⟩, ⟨tg1, iter1, ifs1, 0⟩] scope pos) (tE C (mLc2 js (own.map (·.2)) mi asg (mIfs mt) mi1 vs1 asg1 (mIfs mt1) me)) :=
  peImp (pe_lc2 hc hN L.hi L.ok L.hv (blkG L.hg) (blkT L.ht) (blkI L.hi1) (blkG L.hg1) (blkT L.ht1) (blkE L.he) (plain_fold L.hp X.env) (fun env x => plain_fold L.hp1 env x)) fun σ H Q q => lc2_read e eN L.hsl q
theorem psSetLc2 {i : Nat} {y : Str} {py pos spos : Pos} (e : C.K = X.K) (eN : C.N = X.N) (hc : X.calm = true) (hN : X.N.Nodup) (L : Lc2Ok X C elt tg iter tg1 iter1 ifs ifs1 scope own sl vs1 mi mi1 asg asg1 mt mt1 me)
    (hy : X.N[i]? = some y) (hx : Loc X.env.scope y) (hf : X.fn y = true ∨ X.env.scope.names.lookup y = some .local) (hk : X.env.scope.kind = .function) :
    PS X (.Assign [.Name y py] (.ListComp elt [⟨tg, iter, ifs, 0⟩, ⟨tg1, iter1, ifs1, 0⟩] scope pos) spos) (tS C (mSet i (mLc2 js (own.map (·.2)) mi asg (mIfs mt) mi1 vs1 asg1 (mIfs mt1) me))) := by
  have hb : X.env.blockKind = .function := by unfold PySem.Env.blockKind; rw [hk]; rfl
  by_cases hsw : (X.env.blockKind == .function && X.env.kindOf y == some .local && py.line == (Expr.ListComp elt [⟨tg, iter, ifs, 0⟩, ⟨tg1, iter1, ifs1, 0⟩] scope pos).pos.line && !(scope.names.any fun (n, k) => n == y && (k == .local || k == .cell))) = true
  · have h1 : swapsWith (.ListComp elt [⟨tg, iter, ifs, 0⟩, ⟨tg1, iter1, ifs1, 0⟩] scope pos) (some (.Name y py)) spos.line X.env = pure true := by
      unfold swapsWith
      dsimp only
      rw [hsw]
    have hyl : X.env.scope.names.lookup y = some .local := by
      simp only [Bool.and_eq_true] at hsw
      exact eq_of_beq hsw.1.1.2
    refine psImp (ps_setLc2 hc hN hy hyl h1 L.hi L.ok L.hv (blkG L.hg) (blkT L.ht) (blkI L.hi1) (blkG L.hg1) (blkT L.ht1) (blkE L.he) (plain_fold L.hp X.env) (fun env x => plain_fold L.hp1 env x)) fun Dn σ H q => ?_
    exact lc2_read e eN L.hsl (tS_set q)
  · have h1 : swapsWith (.ListComp elt [⟨tg, iter, ifs, 0⟩, ⟨tg1, iter1, ifs1, 0⟩] scope pos) (some (.Name y py)) spos.line X.env = pure false := by
      unfold swapsWith
      dsimp only
      rw [Bool.not_eq_true] at hsw
      rw [hsw]
    exact psImp (ps_set hN hy hx (peLc2 e eN hc hN L) h1 hf) fun Dn σ H q => tS_set q
end
end
end HC
set_option Elab.async false
set_option linter.all false
set_option maxRecDepth 100000
set_option maxHeartbeats 3200000
set_option autoImplicit false
/-! HC, part T0: set(x) of keys, at the library's level. -/
namespace HC
open PySem PySem.Spec PyProof.Rows L2
def memK (us : List Key) (k : Key) : Bool := us.any fun j => decide (j = k)
/-- each once, in their order -/
def uniq : List Key → List Key → List Key
  | us, [] => us
  | us, k :: ks => if memK us k = true then uniq us ks else uniq (us ++ [k]) ks
theorem uniq_snoc : ∀ (ks us : List Key) (k : Key), uniq us (ks ++ [k]) = if memK (uniq us ks) k = true then uniq us ks else uniq us ks ++ [k]
  | [], us, k => rfl
  | x :: ks, us, k => by
    rw [List.cons_append]
    simp only [uniq]
    split
    · exact uniq_snoc ks us k
    · exact uniq_snoc ks (us ++ [x]) k
theorem uniq_len : ∀ (ks us : List Key), (uniq us ks).length ≤ us.length + ks.length
  | [], us => Nat.le_refl _
  | x :: ks, us => by
    simp only [uniq]
    split
    · have := uniq_len ks us
      rw [List.length_cons]
      omega
    · have := uniq_len ks (us ++ [x])
      rw [List.length_append, List.length_singleton] at this
      rw [List.length_cons]
      omega
theorem setOf_to {P : Program} {w : World} {h : Heap} {a : Addr} {S T : Key → Bool} {n m : Nat} (q : h.SetOf (mixKind P w) a S n) (e : ∀ k, S k = T k) (e2 : n = m) : h.SetOf (mixKind P w) a T m := by
  have : S = T := funext e
  rw [← this, ← e2]
  exact q
section
variable {prog : Program} {w : World} {A : Around} {R : Result → Shared → Prop} {J : Addr} {fp wr : List Addr} {Gn : Array GenState → Array GenState → Prop} {n : Nat} {Pv : Nat → Value → Prop} {Sv : Nat → Shared → Prop}
/-- set.update over a walk that gives keys -/
theorem setLoop (W : WalksS prog w A.in1 J fp wr Gn n Pv Sv) (T : Addr) (nT : T ∉ fp) (ks : List Key) (hn : ks.length = n) (hn2 : n < 4000) (hv : ∀ i v, Pv i v → ∃ k, ks[i]? = some k ∧ RelV (kV k) v) :
    ∀ (m i : Nat) (z : Shared), n - i = m → i ≤ n → Sv i z → z.heap.SetOf (mixKind prog w) T (fun k => memK (uniq [] (ks.take i)) k) (uniq [] (ks.take i)).length →
      (∀ z', Moved (T :: wr) Gn z z' → z'.heap.SetOf (mixKind prog w) T (fun k => memK (uniq [] ks) k) (uniq [] ks).length → R (.ok (.ret .none)) z') →
      codeAny (model prog w) A (.builtin "set.update.loop" ⟨[.ref T, .ref J], []⟩) R z := by
  have nTw : T ∉ wr := fun q => nT (W.sub _ q)
  have up : ∀ b ∈ wr, b ∈ T :: wr := fun b q => List.mem_cons_of_mem _ q
  intro m
  induction m with
  | zero =>
    intro i z hm hi hst hS hR
    obtain rfl : i = n := by omega
    refine codeAny_builtin PyProof.Rows.F.entry_set_update_loop ?_
    rw [Around.under_plainId PyProof.Rows.F.plain_set_update_loop _]
    show wpAny _ A.in1 (pyNext (.ref J) >>= _) _ _ z
    refine wpAny_bind (W.done z _ _ hst fun z' mv => ?_)
    show wpAny _ A.in1 (ret Value.none) _ _ z'
    refine wpAny_pure (hR z' (mv.mono up) ?_)
    rw [← hn, List.take_length] at hS
    obtain ⟨o, es, ep, t, ho, rest⟩ := hS
    exact ⟨o, es, ep, t, mv.heap T _ nTw ho, rest⟩
  | succ m ih =>
    intro i z hm hi hst hS hR
    have lt : i < n := by omega
    refine codeAny_builtin PyProof.Rows.F.entry_set_update_loop ?_
    rw [Around.under_plainId PyProof.Rows.F.plain_set_update_loop _]
    show wpAny _ A.in1 (pyNext (.ref J) >>= _) _ _ z
    refine wpAny_bind (W.item i z _ _ lt hst fun v z' hP hst' mv => ?_)
    obtain ⟨k, hk, rk⟩ := hv i v hP
    have hS' : z'.heap.SetOf (mixKind prog w) T (fun k => memK (uniq [] (ks.take i)) k) (uniq [] (ks.take i)).length := by
      obtain ⟨o, es, ep, tb, ho, rest⟩ := hS
      exact ⟨o, es, ep, tb, mv.heap T _ nTw ho, rest⟩
    have hlen : (uniq [] (ks.take i)).length + 1 < scanBound := by
      have q1 := uniq_len (ks.take i) []
      rw [List.length_nil, List.length_take] at q1
      unfold scanBound
      omega
    show wpAny _ A.in1 (holding [v] (setAdd T v) >>= _) _ _ z'
    refine wpAny_bind (wpAny_holding ?_)
    unfold setAdd
    refine wpAny_holding ?_
    refine wpAny_bind ((mixKind prog w).pyHash (k := k) (kV_is rk) ?_)
    refine wpAny_setAddHashed_of (knd := mixKind prog w) (s := { z' with toks := z'.toks + 1 }) (kV_is rk) (key_scan rk) hS' hlen fun h' sb hS2 => ?_
    have hS3 : h'.SetOf (mixKind prog w) T (fun k => memK (uniq [] (ks.take (i + 1))) k) (uniq [] (ks.take (i + 1))).length := by
      have e : ks.take (i + 1) = ks.take i ++ [k] := by
        rw [List.take_succ, hk]
        rfl
      rw [e, uniq_snoc]
      by_cases q : memK (uniq [] (ks.take i)) k = true
      · rw [if_pos q]
        refine setOf_to hS2 (fun j => ?_) (by rw [if_pos q])
        by_cases y : j = k
        · subst y; simp [q]
        · simp [y]
      · rw [if_neg q]
        refine setOf_to hS2 (fun j => ?_) (by rw [if_neg q, List.length_append]; rfl)
        unfold memK
        rw [List.any_append]
        congr 1
        simp only [List.any_cons, List.any_nil, Bool.or_false]
        by_cases y : j = k
        · subst y; rfl
        · rw [decide_eq_false y, decide_eq_false (fun x => y x.symm)]
    refine wpAny_pure ⟨plainId_quiet PyProof.Rows.F.plain_set_update_loop _, ih (i + 1) _ (by omega) lt (W.frame _ z' _ _ hst' (Nat.le_succ _) fun b hb o e => ?_) hS3 fun z2 mv2 hS4 => ?_⟩
    · rw [sb.2 b (fun q : b = T => nT (by rw [← q]; exact hb))]
      exact e
    · refine hR z2 (Moved.trans W.gtrans ((mv.mono up).then_heap (Nat.le_succ _) fun b o hb e => ?_) mv2) hS4
      rw [sb.2 b (fun q : b = T => hb (by rw [q]; exact List.mem_cons_self))]
      exact e
end
theorem vals_at : ∀ {vs : List V} {us : List Value} {i : Nat} {u : Value}, Vals vs us → us[i]? = some u → ∃ v, vs[i]? = some v ∧ RelV v u
  | _, _, i, u, .nil, h => by simp at h
  | _, _, 0, u, .cons r t, h => by
    simp at h
    subst h
    exact ⟨_, rfl, r⟩
  | _, _, i + 1, u, .cons r t, h => by
    simp only [List.getElem?_cons_succ] at h ⊢
    exact vals_at t h
section
variable {prog : Program} {w : World} {A : Around} {E : Value → Shared → Prop} {z : Shared}
theorem setOf_list {q : Addr} {its : Array Value} {ks : List Key} {Q : Value → Shared → Prop} (hh : A.handled = none) (hq : z.heap.IsList q its) (hi : Vals (ks.map kV) its.toList) (hn : ks.length < 4000)
    (h : ∀ (h' : Heap) (tk : Nat), h'.SetOf (mixKind prog w) z.heap.objs.size (fun k => memK (uniq [] ks) k) (uniq [] ks).length → (∀ b o, b < z.heap.objs.size → z.heap.get? b = some o → h'.get? b = some o) → Q (.ref z.heap.objs.size) { z with heap := h', toks := tk }) :
    wpAny (model prog w) A (call (.type "set") [.ref q]) Q E z := by
  obtain ⟨c, tl, hmro⟩ := PySem.F.called_set.mro
  have f1 := PySem.F.called_set.made
  have f2 := PySem.F.called_set.sub
  refine wpAny_call (codeAny_of_tree ?_)
  show wpAny _ _ (callAny (.type "set") _) _ _ _
  refine wpAny_pure ⟨Code.quiet_builtin _ (by decide +kernel), codeAny_builtin PySem.F.entry_type_call ?_⟩
  rw [Around.under_plain (weight_type_call_type "set" [.ref q] []) rfl]
  have f3 := PySem.F.called_set.notType
  have f4 := PySem.F.called_set.canCreate
  have f5 := PySem.F.typeCall_set_1 (.ref q)
  repeat (any_goals (first | assumption | wp_step))
  refine codeAny_mono (code_set_new_1 (.ref q) (E := E) (Q₁ := fun ob z1 => ∃ fl : Bool, ob = .ref z.heap.objs.size ∧ z1 = { z with heap := z.heap.push { cls := .type "set", dict := none, data := .set #[] 0 (.fresh 0 0 fl) } }) fun fl => ⟨fl, rfl, rfl⟩) fun r z1 hr => ?_
  cases r with
  | error e => exact hr
  | ok fw =>
    cases fw with
    | ret ob =>
      obtain ⟨fl, rfl, rfl⟩ := hr
      have g1 : (z.heap.push { cls := .type "set", dict := none, data := .set #[] 0 (.fresh 0 0 fl) }).get? z.heap.objs.size = some { cls := .type "set", dict := none, data := .set #[] 0 (.fresh 0 0 fl) } := Heap.get?_push_size _ rfl
      have g2 : Shared.TypeIs { z with heap := z.heap.push { cls := .type "set", dict := none, data := .set #[] 0 (.fresh 0 0 fl) } } (.ref z.heap.objs.size) "set" := ⟨_, g1, rfl⟩
      have g3 := PySem.F.called_set.init.lookup
      have g4 := PySem.F.called_set.init.bind (.ref z.heap.objs.size)
      repeat (any_goals (first | assumption | wp_step))
      refine codeAny_mono (codeAny_call_builtin (R := wants (fun r z2 => r = .none ∧ ∃ h' tk, z2 = { z with heap := h', toks := tk } ∧ h'.SetOf (mixKind prog w) z.heap.objs.size (fun k => memK (uniq [] ks) k) (uniq [] ks).length ∧ (∀ b o, b < z.heap.objs.size → z.heap.get? b = some o → h'.get? b = some o)) E) PySem.F.called_set.init.plain PySem.F.entry_set_init (check_set_init_1 g2 ?_)) fun r2 z2 hr2 => ?_
      · obtain ⟨oq, hoq, hcq, nq, hdq⟩ := hq
        obtain ⟨ocls, odict, odata, oslots⟩ := oq
        simp only at hcq hdq
        subst hcq
        subst hdq
        have g5 : (z.heap.push { cls := .type "set", dict := none, data := .set #[] 0 (.fresh 0 0 fl) }).get? q = some { cls := .type "list", dict := odict, data := .seq its nq, slots := oslots } := Heap.get?_push_of_some _ hoq
        have g6 := PySem.F.sub_list_set
        have g7 := PySem.F.sub_list_frozenset
        have g8 : (Value.type "list" == Value.type "dict") = false := by decide
        have g9 : (z.heap.push { cls := .type "set", dict := none, data := .set #[] 0 (.fresh 0 0 fl) }).IsList q its := ⟨_, g5, rfl, nq, rfl⟩
        unfold Builtin.«set.__init__» noKeywords Builtin.Frozenset.updateFrom
        generalize hPI : pyIter = PI
        wp_walk
        subst hPI
        refine wpAny_pyIter_list g9 ?_
        refine wpAny_bind (wpAny_runValue ?_)
        have lq : q < z.heap.objs.size := Heap.lt_size hoq
        have hh3 : A.in1.in1.in1.handled = none := by simp [hh]
        have nq1 : q ≠ (z.heap.push { cls := .type "set", dict := none, data := .set #[] 0 (.fresh 0 0 fl) }).objs.size := by
          rw [Heap.size_push]
          exact Nat.ne_of_lt (Nat.lt_succ_of_lt lq)
        have nf : z.heap.objs.size ∉ [(z.heap.push { cls := .type "set", dict := none, data := .set #[] 0 (.fresh 0 0 fl) }).objs.size, q] := by
          rw [Heap.size_push]
          simp only [List.mem_cons, List.mem_singleton, List.not_mem_nil, or_false, not_or]
          exact ⟨Nat.ne_of_lt (Nat.lt_succ_self _), Nat.ne_of_gt lq⟩
        have hsz : ks.length = its.size := by
          have := hi.length
          rw [List.length_map, Array.length_toList] at this
          exact this
        have hv : ∀ (i : Nat) (v : Value), its[i]? = some v → ∃ k, ks[i]? = some k ∧ RelV (kV k) v := fun i v e => by
          have e' : its.toList[i]? = some v := by rw [Array.getElem?_toList]; exact e
          obtain ⟨y, h1, h2⟩ := vals_at hi e'
          rw [List.getElem?_map] at h1
          cases y' : ks[i]? with
          | none => rw [y'] at h1; cases h1
          | some k =>
            rw [y'] at h1
            cases h1
            exact ⟨k, rfl, h2⟩
        refine setLoop ((Walks.list hh3 _ q nq1 its).toS) z.heap.objs.size nf ks hsz (by rw [← hsz]; exact hn) hv (its.size - 0) 0 _ (by omega) (Nat.zero_le _) ⟨⟨_, Heap.get?_push_size _ rfl, rfl, rfl⟩, (g9.push _)⟩ ?c1 ?c2
        case c1 =>
          have g10 : ((z.heap.push { cls := .type "set", dict := none, data := .set #[] 0 (.fresh 0 0 fl) }).push { cls := .type "list_iterator", data := .fields #[.ref q, .int 0 0] }).get? z.heap.objs.size = some { cls := .type "set", dict := none, data := .set #[] 0 (.fresh 0 0 fl) } := Heap.get?_push_of_some _ g1
          exact ⟨_, #[], 0, _, g10, ⟨rfl, rfl, rfl⟩, rfl, (fun e he => by simp at he), (fun k => by simp [uniq, memK]), (by decide), (by cases fl <;> rfl), rfl⟩
        case c2 =>
          intro z' mv hS'
          obtain ⟨h', g', d', tk', os'⟩ := z'
          have e1 : g' = z.gens := mv.gens
          have e2 : d' = z.drawn := mv.drawn
          have e3 : os' = z.os := mv.os
          subst e1
          subst e2
          subst e3
          show wpAny _ _ _ _ _ _
          refine wpAny_pure ?_
          show wpAny _ _ (ret Value.none) _ _ _
          refine wpAny_pure ⟨rfl, h', tk', rfl, hS', fun b o hb e => ?_⟩
          have b1 : b ≠ z.heap.objs.size := Nat.ne_of_lt hb
          have b2 : b ≠ (z.heap.push { cls := .type "set", dict := none, data := .set #[] 0 (.fresh 0 0 fl) }).objs.size := by
            rw [Heap.size_push]
            exact Nat.ne_of_lt (Nat.lt_succ_of_lt hb)
          refine mv.heap b o ?_ (Heap.get?_push_of_some _ (Heap.get?_push_of_some _ e))
          simp only [List.mem_cons, List.mem_singleton, List.not_mem_nil, or_false, not_or]
          exact ⟨b1, b2⟩
      · cases r2 with
        | error e => exact hr2
        | ok fw2 =>
          cases fw2 with
          | ret r =>
            obtain ⟨rfl, h', tk, rfl, hS', hk'⟩ := hr2
            repeat (any_goals (first | assumption | wp_step))
            exact h _ _ hS' hk'
          | _ => exact hr2.elim
    | _ => exact hr.elim
end
section
variable {prog : Program} {w : World} {A : Around} {E : Value → Shared → Prop} {z : Shared}
theorem setOf_tuple {q : Addr} {its : Array Value} {ks : List Key} {Q : Value → Shared → Prop} (hh : A.handled = none) (hq : z.heap.IsTuple q its) (hi : Vals (ks.map kV) its.toList) (hn : ks.length < 4000)
    (h : ∀ (h' : Heap) (tk : Nat), h'.SetOf (mixKind prog w) z.heap.objs.size (fun k => memK (uniq [] ks) k) (uniq [] ks).length → (∀ b o, b < z.heap.objs.size → z.heap.get? b = some o → h'.get? b = some o) → Q (.ref z.heap.objs.size) { z with heap := h', toks := tk }) :
    wpAny (model prog w) A (call (.type "set") [.ref q]) Q E z := by
  obtain ⟨c, tl, hmro⟩ := PySem.F.called_set.mro
  have f1 := PySem.F.called_set.made
  have f2 := PySem.F.called_set.sub
  refine wpAny_call (codeAny_of_tree ?_)
  show wpAny _ _ (callAny (.type "set") _) _ _ _
  refine wpAny_pure ⟨Code.quiet_builtin _ (by decide +kernel), codeAny_builtin PySem.F.entry_type_call ?_⟩
  rw [Around.under_plain (weight_type_call_type "set" [.ref q] []) rfl]
  have f3 := PySem.F.called_set.notType
  have f4 := PySem.F.called_set.canCreate
  have f5 := PySem.F.typeCall_set_1 (.ref q)
  repeat (any_goals (first | assumption | wp_step))
  refine codeAny_mono (code_set_new_1 (.ref q) (E := E) (Q₁ := fun ob z1 => ∃ fl : Bool, ob = .ref z.heap.objs.size ∧ z1 = { z with heap := z.heap.push { cls := .type "set", dict := none, data := .set #[] 0 (.fresh 0 0 fl) } }) fun fl => ⟨fl, rfl, rfl⟩) fun r z1 hr => ?_
  cases r with
  | error e => exact hr
  | ok fw =>
    cases fw with
    | ret ob =>
      obtain ⟨fl, rfl, rfl⟩ := hr
      have g1 : (z.heap.push { cls := .type "set", dict := none, data := .set #[] 0 (.fresh 0 0 fl) }).get? z.heap.objs.size = some { cls := .type "set", dict := none, data := .set #[] 0 (.fresh 0 0 fl) } := Heap.get?_push_size _ rfl
      have g2 : Shared.TypeIs { z with heap := z.heap.push { cls := .type "set", dict := none, data := .set #[] 0 (.fresh 0 0 fl) } } (.ref z.heap.objs.size) "set" := ⟨_, g1, rfl⟩
      have g3 := PySem.F.called_set.init.lookup
      have g4 := PySem.F.called_set.init.bind (.ref z.heap.objs.size)
      repeat (any_goals (first | assumption | wp_step))
      refine codeAny_mono (codeAny_call_builtin (R := wants (fun r z2 => r = .none ∧ ∃ h' tk, z2 = { z with heap := h', toks := tk } ∧ h'.SetOf (mixKind prog w) z.heap.objs.size (fun k => memK (uniq [] ks) k) (uniq [] ks).length ∧ (∀ b o, b < z.heap.objs.size → z.heap.get? b = some o → h'.get? b = some o)) E) PySem.F.called_set.init.plain PySem.F.entry_set_init (check_set_init_1 g2 ?_)) fun r2 z2 hr2 => ?_
      · obtain ⟨oq, hoq, hcq, nq, hdq⟩ := hq
        obtain ⟨ocls, odict, odata, oslots⟩ := oq
        simp only at hcq hdq
        subst hcq
        subst hdq
        have g5 : (z.heap.push { cls := .type "set", dict := none, data := .set #[] 0 (.fresh 0 0 fl) }).get? q = some { cls := .type "tuple", dict := odict, data := .seq its nq, slots := oslots } := Heap.get?_push_of_some _ hoq
        have g6 := PySem.F.sub_tuple_set
        have g7 := PySem.F.sub_tuple_frozenset
        have g8 : (Value.type "tuple" == Value.type "dict") = false := by decide
        have g9 : (z.heap.push { cls := .type "set", dict := none, data := .set #[] 0 (.fresh 0 0 fl) }).IsTuple q its := ⟨_, g5, rfl, nq, rfl⟩
        unfold Builtin.«set.__init__» noKeywords Builtin.Frozenset.updateFrom
        generalize hPI : pyIter = PI
        wp_walk
        subst hPI
        refine wpAny_pyIter_tuple g9 ?_
        refine wpAny_bind (wpAny_runValue ?_)
        have lq : q < z.heap.objs.size := Heap.lt_size hoq
        have hh3 : A.in1.in1.in1.handled = none := by simp [hh]
        have nq1 : q ≠ (z.heap.push { cls := .type "set", dict := none, data := .set #[] 0 (.fresh 0 0 fl) }).objs.size := by
          rw [Heap.size_push]
          exact Nat.ne_of_lt (Nat.lt_succ_of_lt lq)
        have nf : z.heap.objs.size ∉ [(z.heap.push { cls := .type "set", dict := none, data := .set #[] 0 (.fresh 0 0 fl) }).objs.size, q] := by
          rw [Heap.size_push]
          simp only [List.mem_cons, List.mem_singleton, List.not_mem_nil, or_false, not_or]
          exact ⟨Nat.ne_of_lt (Nat.lt_succ_self _), Nat.ne_of_gt lq⟩
        have hsz : ks.length = its.size := by
          have := hi.length
          rw [List.length_map, Array.length_toList] at this
          exact this
        have hv : ∀ (i : Nat) (v : Value), its[i]? = some v → ∃ k, ks[i]? = some k ∧ RelV (kV k) v := fun i v e => by
          have e' : its.toList[i]? = some v := by rw [Array.getElem?_toList]; exact e
          obtain ⟨y, h1, h2⟩ := vals_at hi e'
          rw [List.getElem?_map] at h1
          cases y' : ks[i]? with
          | none => rw [y'] at h1; cases h1
          | some k =>
            rw [y'] at h1
            cases h1
            exact ⟨k, rfl, h2⟩
        refine setLoop ((Walks.tuple hh3 _ q nq1 its).toS) z.heap.objs.size nf ks hsz (by rw [← hsz]; exact hn) hv (its.size - 0) 0 _ (by omega) (Nat.zero_le _) ⟨⟨_, Heap.get?_push_size _ rfl, rfl, rfl⟩, (g9.push _)⟩ ?c1 ?c2
        case c1 =>
          have g10 : ((z.heap.push { cls := .type "set", dict := none, data := .set #[] 0 (.fresh 0 0 fl) }).push { cls := .type "tuple_iterator", data := .fields #[.ref q, .int 0 0] }).get? z.heap.objs.size = some { cls := .type "set", dict := none, data := .set #[] 0 (.fresh 0 0 fl) } := Heap.get?_push_of_some _ g1
          exact ⟨_, #[], 0, _, g10, ⟨rfl, rfl, rfl⟩, rfl, (fun e he => by simp at he), (fun k => by simp [uniq, memK]), (by decide), (by cases fl <;> rfl), rfl⟩
        case c2 =>
          intro z' mv hS'
          obtain ⟨h', g', d', tk', os'⟩ := z'
          have e1 : g' = z.gens := mv.gens
          have e2 : d' = z.drawn := mv.drawn
          have e3 : os' = z.os := mv.os
          subst e1
          subst e2
          subst e3
          show wpAny _ _ _ _ _ _
          refine wpAny_pure ?_
          show wpAny _ _ (ret Value.none) _ _ _
          refine wpAny_pure ⟨rfl, h', tk', rfl, hS', fun b o hb e => ?_⟩
          have b1 : b ≠ z.heap.objs.size := Nat.ne_of_lt hb
          have b2 : b ≠ (z.heap.push { cls := .type "set", dict := none, data := .set #[] 0 (.fresh 0 0 fl) }).objs.size := by
            rw [Heap.size_push]
            exact Nat.ne_of_lt (Nat.lt_succ_of_lt hb)
          refine mv.heap b o ?_ (Heap.get?_push_of_some _ (Heap.get?_push_of_some _ e))
          simp only [List.mem_cons, List.mem_singleton, List.not_mem_nil, or_false, not_or]
          exact ⟨b1, b2⟩
      · cases r2 with
        | error e => exact hr2
        | ok fw2 =>
          cases fw2 with
          | ret r =>
            obtain ⟨rfl, h', tk, rfl, hS', hk'⟩ := hr2
            repeat (any_goals (first | assumption | wp_step))
            exact h _ _ hS' hk'
          | _ => exact hr2.elim
    | _ => exact hr.elim
end
end HC
set_option Elab.async false
set_option linter.all false
set_option maxRecDepth 100000
set_option maxHeartbeats 1000000
set_option autoImplicit false
/-! HC, part S: sets of keys: comprehensions, set(x), len. -/
namespace HC
open PySem PySem.Spec PyProof.Rows L2
section
variable {X : Cx}
/-- {elt for target in iter if ..} of keys: D the new set -/
def tScK (P : Program) (w : World) (wi : TI) (g : TG) (tt : TT) (te : TE) (vs : List Nat) : TE := fun σ H Q => wi σ H fun J H1 => ∀ D, H1 D = none → ∃ W : Nat → Nat → Hp → Prop, (∃ m, W 0 m (upd H1 D (SetK P w D (fun _ => false) 0))) ∧ ∀ i m H2, W i m H2 →
  (J.stop i H2 ∧ Q (.ref D) H2) ∨ (J.go i H2 ∧ ∃ Nx : Hp → Prop, (∀ H3, Nx H3 → ∃ m', m' < m ∧ W (i + 1) m' H3) ∧ ∀ x H3, J.yld i H2 x H3 → g x (wipe σ vs) H3 fun σ2 H4 => wipe σ2 vs = wipe σ vs ∧ tt σ2 H4 fun b H5 =>
    if b = true then te σ2 H5 fun y H6 => ∃ (k : Key) (S : Key → Bool) (n : Nat), y = kV k ∧ H6 D = some (SetK P w D S n) ∧ n + 1 < scanBound ∧ Nx (upd H6 D (SetK P w D (fun j => S j || decide (j = k)) (if S k = true then n else n + 1))) else Nx H5)
theorem setK_fresh {P : Program} {w : World} {h : Heap} : (h.push { cls := .type "set", dict := none, data := .set #[] 0 (.fresh 0 0 (!w.params.followText "set-order")) }).SetOf (mixKind P w) h.objs.size (fun _ => false) 0 :=
  ⟨_, #[], 0, _, Heap.get?_push_size _ rfl, ⟨rfl, rfl, rfl⟩, rfl, (fun e he => by simp at he), (fun k => by simp), (by decide), (by rfl), rfl⟩
/-- set.add of a key -/
theorem addK_ok {pins : List (Addr × Obj)} {σ : L2.St} {H : Hp} {s : Shared} {E : Value → Shared → Prop} {D : Addr} {S : Key → Bool} {n : Nat} {k : Key} {u : Value} {Q : Value → Shared → Prop} (I : Inv X pins σ H s) (hD : H D = some (SetK X.prog X.w D S n)) (rk : RelV (kV k) u) (room : n + 1 < scanBound)
    (h : ∀ t, Inv X pins σ (upd H D (SetK X.prog X.w D (fun j => S j || decide (j = k)) (if S k = true then n else n + 1))) t → Q .none t) : wpAny (model X.prog X.w) X.A (call (.builtin "set.add") [.ref D, u]) Q E s := by
  refine call_set_add (kV_is rk) (key_scan rk) (setK_get I hD) room fun h' sb new => ?_
  obtain ⟨o, es, ep, t, ho, rest⟩ := id new
  exact h _ (I.write (e := D) (t' := s.toks + 1) (by rw [hD]; trivial) (.inl rfl) (fun b u hb hu => (sb.2 b hb).trans hu) ⟨o, ho⟩ (setK_new new))
theorem scK {elt tg iter : Expr} {ifs : List Expr} {scope : Scope} {own : List (Str × Nat)} {pos : Pos} {wi : TI} {g : TG} {tt : TT} {te : TE} (hc : X.calm = true) (hN : X.N.Nodup) (hi : PI X tg iter wi) (ok : BlkOk X.N X.env.scope scope own)
    (hg : ∀ (s : Shared) (H : Hp) (C : Addr) (cl : List (Str × Addr)) (fp : List Addr), PG (X.blk s H scope (compEnvC scope cl C X.env) fp) tg g) (ht : ∀ (s : Shared) (H : Hp) (C : Addr) (cl : List (Str × Addr)) (fp : List Addr), PTs (X.blk s H scope (compEnvC scope cl C X.env) fp) ifs tt)
    (he : ∀ (s : Shared) (H : Hp) (C : Addr) (cl : List (Str × Addr)) (fp : List Addr), PE (X.blk s H scope (compEnvC scope cl C X.env) fp) elt te) (hs : ∀ x, foldedSetIterable iter X.env x = pure x) :
    PE X (.SetComp elt [⟨tg, iter, ifs, 0⟩] scope pos) (tScK X.prog X.w wi g tt te (own.map (·.2))) := by
  refine ⟨fun pins s σ H Q I h => ?_⟩
  rw [PpSet.eval_SetComp]
  have free : ∀ y ∈ scope.names, y.2 = .free → ∃ c, X.env.cells.lookup y.1 = some c := fun y hy e => by
    rcases ok.free y hy e with q | q
    · exact I.ok.has _ (.inl q)
    · exact I.ok.has _ (.inr q)
  refine wpAny_comprehension_free (use := none) rfl hs (closure_ok free) ok.kind (fun y hy e => by rw [ok.uniq y hy, e]) (thn (hi.run pins s σ H _ I h) fun xv s1 hx => thn hx fun itv s2 h2 => ?_)
  obtain ⟨it, fp, tn, J, H2, e, I2, T, st2, f2, q⟩ := h2
  subst e
  refine PpSet.newSet_ok (newEnv_comp ?_)
  obtain ⟨D, hD⟩ : ∃ D, D = s2.heap.objs.size := ⟨_, rfl⟩
  rw [← hD]
  have freeD : H2 D = none := I2.hok.fresh (Nat.le_of_eq hD.symm)
  obtain ⟨W, ⟨m0, w0⟩, turn⟩ := q D freeD
  obtain ⟨s3, hs3⟩ : ∃ s3 : Shared, s3 = { s2 with heap := s2.heap.push { cls := .type "set", dict := none, data := .set #[] 0 (.fresh 0 0 (!X.w.params.followText "set-order")) } } := ⟨_, rfl⟩
  rw [← hs3]
  have hp3 : s3.heap = s2.heap.push { cls := .type "set", dict := none, data := .set #[] 0 (.fresh 0 0 (!X.w.params.followText "set-order")) } := by rw [hs3]
  have I3 : Inv X pins σ (upd H2 D (SetK X.prog X.w D (fun _ => false) 0)) s3 := by
    rw [hs3]
    refine I2.laid (t' := s2.toks) (fun b o e => Heap.get?_push_of_some _ e) (Nat.le_of_eq hD.symm) ?_
    rw [hD]
    exact setK_new setK_fresh
  have lt : ∀ b ∈ fp, b < s2.heap.objs.size := fun b hb => by
    obtain ⟨o, e, _⟩ := T.obj _ _ st2 b hb
    exact Heap.lt_size e
  have f3 : ∀ b ∈ fp, FpOk X pins (upd H2 D (SetK X.prog X.w D (fun _ => false) 0)) b ∧ b < s3.heap.objs.size := fun b hb => by
    have hlt := lt b hb
    refine ⟨⟨?_, (f2 b hb).2⟩, by rw [hp3, Heap.size_push]; exact Nat.lt_succ_of_lt hlt⟩
    rw [upd_ne (by rw [hD]; exact Nat.ne_of_lt hlt)]
    exact (f2 b hb).1
  have st3 : tn 0 s3.heap := T.keep _ _ _ st2 fun b _ o e => by rw [hp3]; exact Heap.get?_push_of_some _ e
  have I4 := block_start I3 ok hN f3
  obtain ⟨cl, hcl⟩ : ∃ cl, cl = cellsFrom (s3.heap.objs.size + 1) scope.names (cloFrom X.env.cells scope.names []) := ⟨_, rfl⟩
  obtain ⟨H3, hH3⟩ : ∃ H3, H3 = upd H2 D (SetK X.prog X.w D (fun _ => false) 0) := ⟨_, rfl⟩
  rw [← hcl, ← hH3] at I4
  rw [← hH3] at I3 w0 f3
  have pg := hg s3 H3 s3.heap.objs.size cl fp
  have pt := ht s3 H3 s3.heap.objs.size cl fp
  have pe := he s3 H3 s3.heap.objs.size cl fp
  obtain ⟨ce, hce⟩ : ∃ ce, ce = compEnvC scope cl s3.heap.objs.size X.env := ⟨_, rfl⟩
  rw [← hce] at I4 pg pt pe
  have cL : ce.locals = s3.heap.objs.size := by rw [hce]; rfl
  obtain ⟨s4, hs4⟩ : ∃ s4 : Shared, s4 = { s3 with heap := pushCells (s3.heap.push { cls := .type "dict", data := .dict #[] }) scope.names } := ⟨_, rfl⟩
  rw [← hs4] at I4
  have nfp : ∀ b ∈ fp, H3 b = none := fun b hb => (f3 b hb).1.1
  have st4 : tn 0 s4.heap := T.keep _ _ _ st3 fun b _ o e => by rw [hs4]; exact pushCells_keeps _ _ _ _ (Heap.get?_push_of_some _ e)
  have stat : ∀ {σ' : L2.St} {H' : Hp} {s' : Shared}, Inv (X.blk s3 H3 scope ce fp) [] σ' H' s' → (∀ b ∈ fp, H' b = none) → ∀ b ∈ fp, FpOk (X.blk s3 H3 scope ce fp) [] H' b := fun I' hn b hb =>
    ⟨hn b hb, (I'.ok.exf b hb).1, I'.ok.exfs b hb, .inl hb, fun x c e => (I'.ok.exf b hb).2 x c e, fun p hp => absurd (show p ∈ ([] : List (Addr × Obj)) ++ [] from hp) (by simp)⟩
  have back : ∀ {H5 : Hp} {s6 : Shared}, Inv (X.blk s3 H3 scope ce fp) [] (wipe σ (own.map (·.2))) H5 s6 → Q (.ref D) H5 → compPost (model X.prog X.w) X.A X.xe none (EP X pins σ Q) (.ref D) s3.heap.objs.size (.ok .next) s6 := fun {H5 s6} I6 qq => by
    have I7 : Inv X pins σ H5 s6 := I3.call' (ch := fp) I6.os I6.base I6.hok I6.bare fun b hb => ⟨(f3 b hb).1.2.2.2.1, (f3 b hb).1.2.1, (f3 b hb).1.2.2.2.2.1, (f3 b hb).1.2.2.2.2.2⟩
    have nC : H5 s3.heap.objs.size = none := by
      have z : H5 ce.locals = none := I6.free
      rw [cL] at z
      exact z
    obtain ⟨m, hn, _⟩ := I6.loc
    have hn' : s6.heap.Ns ce.locals m := hn
    rw [cL] at hn'
    obtain ⟨a0, a1, a2, a3, a4, a5⟩ := I3.fpOk (Nat.le_refl _) nC
    exact ⟨m, hn', fun h'' sb => ⟨.ref D, H5, I7.turned (t' := s6.toks) (fun b o hb e => (sb.2 b hb).trans e) a0 a1 a3 a4 a5, rfl, qq⟩⟩
  have loop : codeAny (model X.prog X.w) X.A (.compLoop (.SetComp elt [⟨tg, iter, ifs, 0⟩] scope pos) 0 (.ref it) (.ref D) ce) (compPost (model X.prog X.w) X.A X.xe none (EP X pins σ Q) (.ref D) s3.heap.objs.size) s4 := by
    refine PpSet.compLoopS_any (fun n t => ∃ i H', Inv (X.blk s3 H3 scope ce fp) [] (wipe σ (own.map (·.2))) H' t ∧ tn i t.heap ∧ (∀ b ∈ fp, H' b = none) ∧ W i n H') ?_ m0 ⟨0, H3, I4, st4, nfp, w0⟩
    rintro n s5 ⟨i, H5, I5, st5, n5, w5⟩
    rcases turn i n H5 w5 with ⟨stop, qq⟩ | ⟨go, Nx, hNx, step⟩
    · refine thnF (T.done (X.blk s3 H3 scope ce fp) rfl rfl rfl hc i [] s5 _ H5 (fun _ _ => False) I5 (stat I5 n5) st5 stop) fun r s6 ⟨hr, I6⟩ => ?_
      subst hr
      exact back I6 qq
    · refine thnF (T.item (X.blk s3 H3 scope ce fp) rfl rfl rfl hc i [] s5 _ H5 (fun _ _ => False) I5 (stat I5 n5) st5 go) fun r s6 ⟨u, hr, h6⟩ => ?_
      subst hr
      refine thnF h6 fun _ s7 ⟨x, H7, I7, r7, y7, st7, n7⟩ => ?_
      have I7' := I7.pinned (stat I7 n7) (T.obj _ _ st7)
      refine thnF (pg.run _ s7 _ H7 x u _ I7' r7 (step x H7 y7)) fun _ s8 ⟨σ8, H8, I8, hw8, q8⟩ => ?_
      refine thnF (pt.run _ s8 σ8 H8 _ I8 q8) fun b s9 ⟨H9, I9, q9⟩ => ?_
      have fin : ∀ {t : Shared} {H' : Hp}, Inv (X.blk s3 H3 scope ce fp) ([] ++ pinsAt fp s7.heap) σ8 H' t → Nx H' → ∃ m, m < n ∧ ∃ i H', Inv (X.blk s3 H3 scope ce fp) [] (wipe σ (own.map (·.2))) H' t ∧ tn i t.heap ∧ (∀ b ∈ fp, H' b = none) ∧ W i m H' := fun {t H'} I' nx => by
        obtain ⟨m', hm, w'⟩ := hNx H' nx
        have pin' : ∀ b ∈ fp, ∀ o, s7.heap.get? b = some o → t.heap.get? b = some o ∧ H' b = none := fun b hb o e => by
          have z := I'.pin (b, o) (List.mem_append_right _ (List.mem_append_right _ (mem_pinsAt hb e)))
          exact ⟨z.1, z.2.1⟩
        have hl : (wipe σ (own.map (·.2))).length = σ8.length := by rw [← hw8, wipe_length]
        refine ⟨m', hm, i + 1, H', (I'.unpinned (pins := [])).weak hl (fun j v e => ?_), T.keep _ _ _ st7 fun b hb o e => (pin' b hb o e).1, fun b hb => ?_, w'⟩
        · rw [← hw8] at e
          exact (wipe_some e).1
        · obtain ⟨o, e, _⟩ := T.obj _ _ st7 b hb
          exact (pin' b hb o e).2
      cases b with
      | false =>
        rw [if_neg (by decide)] at q9
        rw [if_neg (by decide)]
        exact fin I9 q9
      | true =>
        rw [if_pos rfl] at q9
        rw [if_pos rfl]
        refine thnF (pe.run _ s9 σ8 H9 _ I9 q9) fun z s10 ⟨yv, H10, I10, r10, ck, S0, n0, ey, hD10, hz10, nx⟩ => ?_
        subst ey
        exact addK_ok (X := X.blk s3 H3 scope ce fp) I10 hD10 r10 hz10 fun t I11 => fin I11 nx
  have fin := PpSet.codeAny_compStart_set loop (T.self X.A 0 _ _ _ st4 loop)
  rw [hs4, hce, hcl] at fin
  exact fin
end
/-! ### sets as lists of keys -/
def keysOf : List D → Option (List Key)
  | [] => some []
  | d :: ds => (match keyOf d with
    | some k => (match keysOf ds with
      | some ks => some (k :: ks)
      | none => none)
    | none => none)
theorem keysOf_snoc : ∀ {ds : List D} {ks : List Key} {d : D} {k : Key}, keysOf ds = some ks → keyOf d = some k → keysOf (ds ++ [d]) = some (ks ++ [k])
  | [], ks, d, k, h, hk => by
    cases h
    show keysOf [d] = _
    simp only [keysOf, hk]
    rfl
  | x :: ds, ks, d, k, h, hk => by
    simp only [keysOf] at h
    split at h
    · rename_i k1 h1
      split at h
      · rename_i ks1 h2
        cases h
        rw [List.cons_append]
        simp only [keysOf, h1, keysOf_snoc h2 hk]
        rfl
      · cases h
    · cases h
theorem keysOf_app : ∀ {as bs : List D} {ks : List Key}, keysOf (as ++ bs) = some ks → ∃ k1 k2, keysOf as = some k1 ∧ keysOf bs = some k2 ∧ ks = k1 ++ k2
  | [], bs, ks, h => ⟨[], ks, rfl, h, rfl⟩
  | a :: as, bs, ks, h => by
    rw [List.cons_append] at h
    simp only [keysOf] at h
    split at h
    · rename_i k h1
      split at h
      · rename_i ks1 h2
        cases h
        obtain ⟨k1, k2, e1, e2, e3⟩ := keysOf_app h2
        subst e3
        exact ⟨k :: k1, k2, by simp only [keysOf, h1, e1], e2, rfl⟩
      · cases h
    · cases h
theorem keysOf_len : ∀ {ds : List D} {ks : List Key}, keysOf ds = some ks → ks.length = ds.length
  | [], ks, h => by cases h; rfl
  | d :: ds, ks, h => by
    simp only [keysOf] at h
    split at h
    · split at h
      · rename_i ks1 h2
        cases h
        rw [List.length_cons, List.length_cons, keysOf_len h2]
      · cases h
    · cases h
theorem key_rp {K : PySem.W.Frag} {G : Hp} {v : V} {d : D} {k : Key} (h : Rp K G v d) (hk : keyOf d = some k) : v = kV k := by
  unfold keyOf at hk
  split at hk
  · cases hk
    cases h
    rfl
  · cases hk
    cases h
    rfl
  · cases hk
/-- the set of these keys at a -/
abbrev SetU (P : Program) (w : World) (a : Addr) (us : List Key) : HO := SetK P w a (fun k => memK us k) us.length
theorem setU_add {P : Program} {w : World} {a : Addr} {ks : List Key} {k : Key} : SetK P w a (fun j => memK (uniq [] ks) j || decide (j = k)) (if memK (uniq [] ks) k = true then (uniq [] ks).length else (uniq [] ks).length + 1) = SetU P w a (uniq [] (ks ++ [k])) := by
  rw [uniq_snoc]
  by_cases h : memK (uniq [] ks) k = true
  · rw [if_pos h, if_pos h]
    congr 1
    funext j
    by_cases z : j = k
    · subst z; simp [h]
    · simp [z]
  · rw [if_neg h, if_neg h]
    unfold SetU
    rw [List.length_append, List.length_singleton]
    congr 1
    funext j
    unfold memK
    rw [List.any_append]
    congr 1
    simp only [List.any_cons, List.any_nil, Bool.or_false]
    by_cases z : j = k
    · subst z; rfl
    · rw [decide_eq_false z, decide_eq_false (fun y => z y.symm)]
/-- a set expression's reading: m tells what goes in -/
def tSet (P : Program) (w : World) (C : Cn) (m : ML) : TE := fun σ H Q => ∃ env G ys env' ks, SR C env σ H G ∧ m env = some (ys, env') ∧ keysOf ys = some ks ∧ ks.length < 4000 ∧
  ∀ D H' G', Same H H' → Same G G' → SR C env' σ H' G' → H' D = some (SetU P w D (uniq [] ks)) → Q (.ref D) H'
def mScL (js vs : List Nat) (mi : ML) (asg : MG) (tt : MT) (te : MV) : ML := fun env => match mi env with
  | some (ds, e) => (match lcLoop (inner vs (shIdx js e)) asg tt te ds with
    | some ys => some (ys, shIdx js e)
    | none => none)
  | none => none
section
variable {X : Cx} {C : Cn}
theorem tSet_sc {P : Program} {w : World} {js vs sl : List Nat} {mi : ML} {asg : MG} {tt : MT} {te : MV} {wi : TI} {g : TG} {t2 : TT} {t3 : TE} (hsl : ∀ i ∈ sl, i ∈ vs)
    (hi : ∀ σ H R, tI C mi σ H R → wi σ H R) (hg : ∀ (C' : Cn), C'.K = C.K → C'.N = C.N → ∀ v σ H Q, tG C' sl asg v σ H Q → g v σ H Q)
    (ht : ∀ (C' : Cn), C'.K = C.K → C'.N = C.N → ∀ σ H Q, tT C' tt σ H Q → t2 σ H Q) (he : ∀ (C' : Cn), C'.K = C.K → C'.N = C.N → ∀ σ H Q, tE C' te σ H Q → t3 σ H Q)
    {σ : St} {H : Hp} {Q : VK} (h : tSet P w C (mScL js vs mi asg tt te) σ H Q) : tScK P w wi g t2 t3 vs σ H Q := by
  obtain ⟨env, G, ys, env', ks, hs, hm, hks, hkl, hq⟩ := h
  unfold mScL at hm
  split at hm
  · rename_i ds e1 h1
    split at hm
    · rename_i ys' h2
      cases hm
      refine hi σ H _ ⟨env, G, ds, e1, hs, h1, fun J H1 G1 hh hg1 s1 ok => ?_⟩
      obtain ⟨G2, g2, s2⟩ := SR.shIdx js s1
      have ok2 := ok.mono g2
      intro D hD
      have nD : C.H0 D = none := by
        cases q : C.H0 D with
        | none => rfl
        | some u => rw [s2.h0 _ _ q] at hD; cases hD
      have oD : ∀ (i : Nat) e, (shIdx js e1)[i]? = some (some ⟨e, true⟩) → σ[i]? ≠ some (some (.ref D)) := fun i e he hz => by
        obtain ⟨p, o, a1, _, _, a4, _⟩ := s2.ow i e he
        rw [hz] at a1; cases a1; rw [hD] at a4; cases a4
      refine ⟨fun i m H' => ∃ G' zs rest kz, SR C (shIdx js e1) σ H' G' ∧ Same G2 G' ∧ G' D = none ∧ H' D = some (SetU P w D (uniq [] kz)) ∧ keysOf zs = some kz ∧ i ≤ ds.length ∧ m = ds.length - i ∧ lcLoop (inner vs (shIdx js e1)) asg tt te (ds.drop i) = some rest ∧ zs ++ rest = ys ∧
          (∀ a, a ≠ D → H1 a ≠ none → H' a = H1 a), ⟨ds.length, G2, [], ys, [], ?_, Same.refl _, s2.gh.free hD, ?_, rfl, Nat.zero_le _, rfl, h2, rfl, fun a na _ => upd_ne na⟩, fun i m H' hW => ?_⟩
      · exact s2.updD nD (s2.gh.free hD) oD
      · rw [upd_same]
        congr 1
      · obtain ⟨G', zs, rest, kz, sW, gW, dG, dH, kZ, hi', hm', hr, hz, hk⟩ := hW
        by_cases hlt : i < ds.length
        · right
          have hd : ds[i]? = some ds[i] := List.getElem?_eq_getElem hlt
          refine ⟨ok2.go i _ H' G' hd gW sW.gh, ?_⟩
          rw [List.drop_eq_getElem_cons hlt] at hr
          simp only [lcLoop] at hr
          refine ⟨fun H5 => ∃ G5 zs5 rest5 kz5, SR C (shIdx js e1) σ H5 G5 ∧ Same G2 G5 ∧ G5 D = none ∧ H5 D = some (SetU P w D (uniq [] kz5)) ∧ keysOf zs5 = some kz5 ∧ lcLoop (inner vs (shIdx js e1)) asg tt te (ds.drop (i + 1)) = some rest5 ∧ zs5 ++ rest5 = ys ∧ (∀ a, a ≠ D → H1 a ≠ none → H5 a = H1 a),
            fun H5 ⟨G5, zs5, rest5, kz5, a1, a2, a3, a4, a5, a7, a8, a9⟩ => ⟨ds.length - (i + 1), by omega, G5, zs5, rest5, kz5, a1, a2, a3, a4, a5, hlt, rfl, a7, a8, a9⟩, fun x H3 hy => ?_⟩
          obtain ⟨G3, st3, rx⟩ := ok2.yl i _ H' G' x H3 hd gW sW.gh hy
          have sW3 := sW.step st3
          have dH3 : H3 D = some (SetU P w D (uniq [] kz)) := st3.hh _ _ dH
          have dG3 : G3 D = none := by rw [st3.nw D (by rw [dH]; exact fun z => nomatch z)]; exact dG
          have hk3 : ∀ a, a ≠ D → H1 a ≠ none → H3 a = H1 a := fun a na h1a => by
            cases q : H1 a with
            | none => exact absurd q h1a
            | some u => exact st3.hh a u (by rw [hk a na h1a]; exact q)
          split at hr
          · rename_i en1 hA
            refine hg { C with H0 := H3, G0 := G3 } rfl rfl _ _ _ _ ⟨_, G3, _, en1, sW3.inner vs, rx, hA, fun σ2 sT wT => ⟨(wT vs hsl).trans (wipe_wipe σ vs), ?_⟩⟩
            cases hT : tt en1 with
            | none => rw [hT] at hr; cases hr
            | some q =>
              obtain ⟨b, en2⟩ := q
              rw [hT] at hr
              refine ht { C with H0 := H3, G0 := G3 } rfl rfl _ _ _ ⟨en1, G3, b, en2, sT, hT, fun H6 G6 hh6 gg6 s6 => ?_⟩
              cases b with
              | false =>
                dsimp only at hr ⊢
                rw [if_neg (by decide)]
                have st6 : Step H3 G3 H6 G6 := SR.grown (C := C) (env := en2) (σ := σ2) s6 sW3.gh
                refine ⟨G6, zs, rest, kz, sW3.step st6, gW.trans (st3.gg.trans st6.gg), ?_, st6.hh _ _ dH3, kZ, hr, hz, fun a na h1a => ?_⟩
                · rw [st6.nw D (by rw [dH3]; exact fun z => nomatch z)]; exact dG3
                · cases q : H1 a with
                  | none => exact absurd q h1a
                  | some u => exact st6.hh a u (by rw [hk3 a na h1a]; exact q)
              | true =>
                dsimp only at hr ⊢
                rw [if_pos rfl]
                cases hE : te en2 with
                | none => rw [hE] at hr; cases hr
                | some q =>
                  obtain ⟨y, ky, en3⟩ := q
                  rw [hE] at hr
                  dsimp only at hr
                  split at hr
                  · rename_i rest' hR
                    cases hr
                    refine he { C with H0 := H3, G0 := G3 } rfl rfl _ _ _ ⟨en2, G6, y, ky, en3, s6, hE, fun v H7 G7 hh7 gg7 s7 hv => ?_⟩
                    obtain ⟨G8, g8, s8, ry⟩ := s7.useS hv
                    have st8 : Step H3 G3 H7 G8 := SR.grown (C := C) (env := en2) (σ := σ2) s8 sW3.gh
                    have dG8 : G8 D = none := by
                      rw [st8.nw D (by rw [dH3]; exact fun z => nomatch z)]; exact dG3
                    have hys : keysOf ((zs ++ [y]) ++ rest') = some ks := by
                      rw [List.append_assoc]
                      show keysOf (zs ++ y :: rest') = _
                      rw [hz]
                      exact hks
                    obtain ⟨k1, k2, e1', e2', e3'⟩ := keysOf_app hys
                    obtain ⟨k3, k4, e4', e5', e6'⟩ := keysOf_app e1'
                    rw [kZ] at e4'
                    cases e4'
                    have hky : ∃ k, keyOf y = some k := by
                      simp only [keysOf] at e5'
                      split at e5'
                      · exact ⟨_, by assumption⟩
                      · cases e5'
                    obtain ⟨k, hky⟩ := hky
                    have ln : (uniq [] kz).length ≤ kz.length := by
                      have := uniq_len kz []
                      simpa using this
                    have lk : kz.length ≤ ks.length := by
                      rw [e3', e6', List.length_append, List.length_append]
                      omega
                    refine ⟨k, _, _, key_rp ry hky, st8.hh _ _ dH3, ?_, G8, zs ++ [y], rest', kz ++ [k], (sW3.step st8).updD nD dG8 oD, gW.trans (st3.gg.trans st8.gg), dG8, ?_, keysOf_snoc kZ hky, hR, by rw [← hz]; simp, fun a na h1a => ?_⟩
                    · unfold scanBound
                      omega
                    · rw [upd_same, setU_add]
                    · rw [upd_ne na]
                      cases q : H1 a with
                      | none => exact absurd q h1a
                      | some u => exact st8.hh a u (by rw [hk3 a na h1a]; exact q)
                  · cases hr
          · cases hr
        · left
          have ei : i = ds.length := by omega
          subst ei
          rw [List.drop_length] at hr
          cases hr
          rw [List.append_nil] at hz
          subst hz
          rw [kZ] at hks
          cases hks
          refine ⟨ok2.st H' G' gW sW.gh, hq D H' G' (fun a u e => ?_) (hg1.trans (g2.trans gW)) sW dH⟩
          have e1' := hh a u e
          have na : a ≠ D := ne_of_none e1' hD
          rw [hk a na (by rw [e1']; exact fun z => nomatch z)]
          exact e1'
    · cases hm
  · cases hm
end
end HC
set_option Elab.async false
set_option linter.all false
set_option maxRecDepth 100000
set_option maxHeartbeats 3200000
set_option autoImplicit false
/-! HC, part T: set(x) of keys, len of a set. -/
namespace HC
open PySem PySem.Spec PyProof.Rows L2
section
variable {X : Cx} {C : Cn}
def rSetK (X : Cx) : List V → Hp → VK → Prop := fun xs H Q => ∃ (a : Addr) (ks : List Key), xs = [.ref a] ∧ (SqL X.K H a (ks.map kV) ∨ SqT X.K H a (ks.map kV)) ∧ ks.length < 4000 ∧ ∀ D, H D = none → Q (.ref D) (upd H D (SetU X.prog X.w D (uniq [] ks)))
theorem cr_setK (hc : X.calm = true) : CallR X (.type "set") (rSetK X) := by
  intro pins s σ H xs us Q I r ⟨a, ks, ex, hq, hn, q⟩
  subst ex
  cases r with
  | cons r1 r2 =>
    cases r2
    cases r1
    have fin : ∀ (h' : Heap) (tk : Nat), h'.SetOf (mixKind X.prog X.w) s.heap.objs.size (fun k => memK (uniq [] ks) k) (uniq [] ks).length → (∀ b o, b < s.heap.objs.size → s.heap.get? b = some o → h'.get? b = some o) → EP X pins σ Q (.ref s.heap.objs.size) { s with heap := h', toks := tk } := fun h' tk hS hk =>
      ⟨.ref s.heap.objs.size, upd H s.heap.objs.size (SetU X.prog X.w s.heap.objs.size (uniq [] ks)), I.laid (t' := tk) (fun b o e => hk b o (Heap.lt_size e) e) (Nat.le_refl _) (setK_new hS), rfl, q _ (I.hok.fresh (Nat.le_refl _))⟩
    rcases hq with hq | hq
    · obtain ⟨its, r, pl, hz⟩ := I.list hq
      exact setOf_list (I.ok.hd hc) pl.isList (by simpa using r) hn fin
    · obtain ⟨its, r, pl, hz⟩ := I.tuple hq
      exact setOf_tuple (I.ok.hd hc) pl (by simpa using r) hn fin
/-- len of a set -/
def rLenK (X : Cx) : List V → Hp → VK → Prop := fun xs H Q => ∃ (a : Addr) (us : List Key), xs = [.ref a] ∧ H a = some (SetU X.prog X.w a us) ∧ us.length < 4000 ∧ Q (.int (us.length : Nat)) H
theorem cr_lenK : CallR X (.builtin "len") (rLenK X) := by
  intro pins s σ H xs us' Q I r ⟨a, us, ex, ha, hn, q⟩
  subst ex
  cases r with
  | cons r1 r2 =>
    cases r2
    cases r1
    obtain ⟨o, es, ep, t, ho, hex, hd, _, _, _, hf, hz⟩ := setK_get I ha
    exact call_len_set ho hex hd hf (by rw [hz]; omega) ⟨.int us.length, H, I.tok _, ⟨_, by rw [hz]⟩, q⟩
theorem keys_rp {K : PySem.W.Frag} {G : Hp} : ∀ {vs : List V} {ds : List D} {ks : List Key}, RpAll K G vs ds → keysOf ds = some ks → vs = ks.map kV
  | _, [], ks, h, e => by
    cases h
    cases e
    rfl
  | _, d :: ds, ks, h, e => by
    cases h with
    | cons h1 h2 =>
      simp only [keysOf] at e
      split at e
      · rename_i k hk
        split at e
        · rename_i ks1 hk1
          cases e
          rw [List.map_cons, ← key_rp h1 hk, ← keys_rp h2 hk1]
        · cases e
      · cases e
/-- what set(x) takes -/
def mSetL (m : MV) : ML := fun env => match m env with
  | some (.list ds, _, e) => some (ds, e)
  | some (.tuple ds, _, e) => some (ds, e)
  | _ => none
theorem peSetC {a : Expr} {m : MV} {p pos : Pos} (e : C.K = X.K) (hc : X.calm = true) (hg : Gl X "set") (hm : X.mg "set" = none) (ha : PE X a (tE C m)) (hp : plainE a = true) :
    PE X (.Call (.Name "set" p) [a] [] pos) (tSet X.prog X.w C (mSetL m)) := by
  refine peImp (pe_callTy (cr_setK hc) hg hm (by decide +kernel) (pa_cons ha pa_nil (plain_star hp [] X.env)) (by decide) (by decide) (plain_star hp [] X.env) rfl) fun σ H Q q => ?_
  obtain ⟨env, G, ys, env', ks, hs, hm', hks, hkl, hq⟩ := q
  have key : ∀ (d : D) (kd : Kd) (ds : List D), m env = some (d, kd, env') → keysOf ds = some ks → (d = .list ds ∨ d = .tuple ds) → tCB (rSetK X) (tCons (tE C m) tNil) σ H Q := fun d kd ds h1 hk hd => by
    refine ⟨env, G, d, kd, env', hs, h1, fun v H1 G1 hh hg1 s1 hv => ?_⟩
    obtain ⟨G2, g2, s2, rb⟩ := s1.useR hv
    have fin : ∀ D, H1 D = none → Q (.ref D) (upd H1 D (SetU X.prog X.w D (uniq [] ks))) := fun D hD => by
      have nD : C.H0 D = none := by
        cases z : C.H0 D with
        | none => rfl
        | some u => rw [s2.h0 _ _ z] at hD; cases hD
      have oD : ∀ (i : Nat) e, env'[i]? = some (some ⟨e, true⟩) → σ[i]? ≠ some (some (.ref D)) := fun i e he hz => by
        obtain ⟨p, o, a1, _, _, a4, _⟩ := s2.ow i e he
        rw [hz] at a1; cases a1; rw [hD] at a4; cases a4
      exact hq D _ G2 (hh.trans (same_upd hD)) (hg1.trans g2) (s2.updD nD (s2.gh.free hD) oD) upd_same
    rcases hd with rfl | rfl
    · obtain ⟨p, vs, rfl, rd, ra⟩ := rb.list s2.gh
      refine ⟨p, ks, rfl, .inl ?_, hkl, fin⟩
      rw [← keys_rp ra hk]
      exact rd_sq rd
    · have rp := rb.tup_rp
      cases rp with
      | tup hsq ra =>
        refine ⟨_, ks, rfl, .inr ?_, hkl, fin⟩
        rw [← keys_rp ra hk, ← e]
        exact sqT_same s2.gh hsq
  unfold mSetL at hm'
  split at hm'
  · rename_i ds kd e1 h1
    cases hm'
    exact key _ kd _ h1 hks (.inl rfl)
  · rename_i ds kd e1 h1
    cases hm'
    exact key _ kd _ h1 hks (.inr rfl)
  · cases hm'
def mLenSet (m : ML) : MV := fun env => match m env with
  | some (ys, e) => (match keysOf ys with
    | some ks => if ks.length < 4000 then some (.int ((uniq [] ks).length : Nat), .sh, e) else none
    | none => none)
  | none => none
theorem peLenSet {a : Expr} {m : ML} {p pos : Pos} (hg : Gl X "len") (hm : X.mg "len" = none) (ha : PE X a (tSet X.prog X.w C m)) (hp : plainE a = true) : PE X (.Call (.Name "len" p) [a] [] pos) (tE C (mLenSet m)) := by
  refine peImp (pe_callB cr_lenK hg hm (by decide +kernel) (pa_cons ha pa_nil (plain_star hp [] X.env)) (by decide) (by decide) (plain_star hp [] X.env) rfl) fun σ H Q q => ?_
  obtain ⟨env, G, d, k, env', hs, hm', hq⟩ := q
  unfold mLenSet at hm'
  split at hm'
  · rename_i ys e1 h1
    split at hm'
    · rename_i ks hk
      split at hm'
      · rename_i hl
        cases hm'
        refine ⟨env, G, ys, _, ks, hs, h1, hk, hl, fun D H' G' hh hg' s' hD => ?_⟩
        have ul : (uniq [] ks).length < 4000 := by
          have := uniq_len ks []
          rw [List.length_nil] at this
          omega
        exact ⟨D, _, rfl, hD, ul, hq _ H' G' hh hg' s' (.int _)⟩
      · cases hm'
    · cases hm'
  · cases hm'
section
variable {elt tg iter : Expr} {ifs : List Expr} {scope : Scope} {own : List (Str × Nat)} {js sl : List Nat} {mi : ML} {asg : MG} {mt : Option MT} {me : MV}
theorem peSc {pos : Pos} (e : C.K = X.K) (eN : C.N = X.N) (hc : X.calm = true) (hN : X.N.Nodup) (hi : PI X tg iter (tI C mi)) (ok : BlkOk X.N X.env.scope scope own) (hsl : ∀ i ∈ sl, i ∈ own.map (·.2))
    (hg : Blk X scope fun Y => ∀ C', C'.K = X.K → C'.N = X.N → PG Y tg (tG C' sl asg)) (ht : Blk X scope fun Y => ∀ C', C'.K = X.K → C'.N = X.N → OptT Y C' ifs mt) (he : Blk X scope fun Y => ∀ C', C'.K = X.K → C'.N = X.N → PE Y elt (tE C' me)) (hp : plainE iter = true) :
    PE X (.SetComp elt [⟨tg, iter, ifs, 0⟩] scope pos) (tSet X.prog X.w C (mScL js (own.map (·.2)) mi asg (mIfs mt) me)) :=
  peImp (scK hc hN hi ok (blkG hg) (blkT ht) (blkE he) (plain_fold hp X.env)) fun σ H Q q => tSet_sc hsl (fun _ _ _ q => q) (fun C' h1 h2 _ _ _ _ q => ⟨C', h1.trans e, h2.trans eN, q⟩) (fun C' h1 h2 _ _ _ q => ⟨C', h1.trans e, h2.trans eN, q⟩) (fun C' h1 h2 _ _ _ q => ⟨C', h1.trans e, h2.trans eN, q⟩) q
end
end
end HC
set_option Elab.async false
set_option linter.all false
set_option maxRecDepth 100000
set_option maxHeartbeats 1000000
set_option autoImplicit false
/-! HC, part U: dict(pairs), d.get. -/
namespace HC
open PySem PySem.Spec PyProof.Rows L2
theorem keyOf_kD (k : Key) : keyOf (kD k) = some k := by cases k <;> rfl
theorem kv_any {K : PySem.W.Frag} {G : Hp} (k : Key) : ∀ {kvs : List (Key × V)} {ds : List (D × D)}, RpKv K G kvs ds → (kvs.any fun kv => decide (kv.1 = k)) = (dGet ds k).isSome := fun {kvs ds} h => by
  rw [valV_any]
  rcases dGet_of k h with ⟨e1, e2⟩ | ⟨v, d, e1, e2, _⟩
  · rw [e1, e2]; rfl
  · rw [e1, e2]; rfl
theorem kv_map {K : PySem.W.Frag} {G : Hp} {k : Key} {v : V} {d : D} (r : Rp K G v d) : ∀ {kvs : List (Key × V)} {ds : List (D × D)}, RpKv K G kvs ds → RpKv K G (kvs.map fun kv => if kv.1 = k then (kv.1, v) else kv) (ds.map fun kv => if keyOf kv.1 = some k then (kv.1, d) else kv)
  | _, [], h => by cases h; exact .nil
  | _, x :: ds, h => by
    cases h with
    | cons h1 h2 =>
      rename_i j v1 vs d1
      rw [List.map_cons, List.map_cons]
      have ih := kv_map (k := k) r h2
      by_cases e : j = k
      · subst e
        rw [if_pos rfl, if_pos (keyOf_kD _)]
        exact .cons r ih
      · rw [if_neg e, if_neg (fun z => e (by
          have z' : keyOf (kD j) = some k := z
          rw [keyOf_kD] at z'
          exact Option.some.inj z'))]
        exact .cons h1 ih
theorem RpKv.snoc {K : PySem.W.Frag} {G : Hp} {k : Key} {v : V} {d : D} (r : Rp K G v d) : ∀ {kvs : List (Key × V)} {ds : List (D × D)}, RpKv K G kvs ds → RpKv K G (kvs ++ [(k, v)]) (ds ++ [(kD k, d)])
  | _, [], h => by cases h; exact .cons r .nil
  | _, x :: ds, h => by
    cases h with
    | cons h1 h2 => exact .cons h1 (RpKv.snoc r h2)
theorem RpKv.put {K : PySem.W.Frag} {G : Hp} {k : Key} {v : V} {d : D} {kvs : List (Key × V)} {ds : List (D × D)} (h : RpKv K G kvs ds) (r : Rp K G v d) : RpKv K G (putK kvs k v) (dPut ds k d) := by
  unfold putK dPut
  rw [kv_any k h]
  split
  · exact kv_map r h
  · exact RpKv.snoc r h
def dMerge : List (D × D) → List (Key × D) → List (D × D)
  | ds, [] => ds
  | ds, p :: ps => dMerge (dPut ds p.1 p.2) ps
/-- pairs (key, value) -/
def pairsOf : List D → Option (List (Key × D))
  | [] => some []
  | .tuple [a, b] :: ds => (match keyOf a with
    | some k => (match pairsOf ds with
      | some ps => some ((k, b) :: ps)
      | none => none)
    | none => none)
  | _ => none
def dDict : List D → Option (D × Bool)
  | [.list ds] => (match pairsOf ds with
    | some ps => some (.dict (dMerge [] ps), true)
    | none => none)
  | [.dict ds] => some (.dict ds, true)
  | _ => none
theorem merge_rp {K : PySem.W.Frag} {G : Hp} : ∀ {kvs : List (Key × V)} {ps : List (Key × D)} {acc : List (Key × V)} {ds : List (D × D)}, Paired (fun kv p => kv.1 = p.1 ∧ Rp K G kv.2 p.2) kvs ps → RpKv K G acc ds → RpKv K G (mergeK acc kvs) (dMerge ds ps)
  | _, _, acc, ds, .nil, h => h
  | _, _, acc, ds, .cons (a := kv) (b := p) r t, h => by
    have e : kv.1 = p.1 := r.1
    show RpKv K G (mergeK (putK acc kv.1 kv.2) _) (dMerge (dPut ds p.1 p.2) _)
    rw [e]
    exact merge_rp t (h.put r.2)
theorem pairs_rp {K : PySem.W.Frag} {G : Hp} : ∀ {vs : List V} {ds : List D} {ps : List (Key × D)}, RpAll K G vs ds → pairsOf ds = some ps → ∃ (as : List Addr) (kvs : List (Key × V)), vs = as.map V.ref ∧ Paired (fun p kv => SqT K G p [kV kv.1, kv.2]) as kvs ∧ Paired (fun kv p => kv.1 = p.1 ∧ Rp K G kv.2 p.2) kvs ps
  | _, [], ps, h, e => by
    cases h
    cases e
    exact ⟨[], [], rfl, .nil, .nil⟩
  | _, d :: ds, ps, h, e => by
    cases h with
    | cons h1 h2 =>
      unfold pairsOf at e
      split at e
      · cases ‹d :: ds = []›
      · rename_i a b ds' he
        cases he
        split at e
        · rename_i k hk
          split at e
          · rename_i ps' hp
            cases e
            obtain ⟨as, kvs, e1, e2, e3⟩ := pairs_rp h2 hp
            cases h1 with
            | tup hs ha =>
              cases ha with
              | cons a1 a2 =>
                cases a2 with
                | cons a3 a4 =>
                  cases a4
                  have := key_rp a1 hk
                  subst this
                  subst e1
                  exact ⟨_ :: as, (k, _) :: kvs, rfl, .cons hs e2, .cons ⟨rfl, a3⟩ e3⟩
          · cases e
        · cases e
      · cases e
section
variable {X : Cx} {C : Cn}
theorem cr_dict (hc : X.calm = true) : CallR X (.type "dict") (rC X.K dDict) := by
  intro pins s σ H xs us Q I r ⟨G, as, c, fr, gh, ra, hg, q⟩
  unfold dDict at hg
  split at hg
  · split at hg
    · rename_i ps hp
      cases hg
      obtain ⟨x, ex, rb⟩ := ra.one
      obtain ⟨p, vs, e1, hs, hr⟩ := rb.list gh
      subst ex e1
      obtain ⟨as, kvs, e1, e2, e3⟩ := pairs_rp hr hp
      subst e1
      refine call_dictP hc pins s σ H _ us Q I r ⟨p, as, kvs, rfl, .inl hs, ?_, fun l hl => res_dct gh q (merge_rp e3 .nil) hl⟩
      clear e3 hs hr
      induction e2 with
      | nil => exact .nil
      | cons a b ih => exact .cons (sqT_same gh a) ih
    · cases hg
  · cases hg
    obtain ⟨x, ex, rb⟩ := ra.one
    obtain ⟨p, vs, e1, hs, hr⟩ := rb.dict gh
    subst ex e1
    cases r with
    | cons r1 r2 =>
      cases r2
      cases r1
      exact d_copyOf I hs fun l s' hl I' => ⟨.ref l, _, I', rfl, res_dct gh q hr hl⟩
  · cases hg
/-- a built-in function by data -/
def mFn (g : List D → Option (D × Bool)) (m : ML) : MV := fun env => match m env with
  | some (ds, e) => (match g ds with
    | some (c, fr) => some (c, kOf fr, e)
    | none => none)
  | none => none
theorem tCB_fn {g : List D → Option (D × Bool)} {m : ML} {σ : St} {H : Hp} {Q : VK} (h : tE C (mFn g m) σ H Q) : tCB (rC C.K g) (tR C m) σ H Q := by
  obtain ⟨env, G, d, k, env', hs, hm, hq⟩ := h
  unfold mFn at hm
  split at hm
  · rename_i ds e h1
    split at hm
    · rename_i c fr h2
      cases hm
      refine ⟨env, G, ds, env', hs, h1, fun vs H1 G1 hh hg s1 rs => ?_⟩
      refine ⟨G1, ds, d, fr, s1.gh, rs, h2, fun z H' G' st rv => ?_⟩
      exact hq z H' G' (hh.trans st.hh) (hg.trans st.gg) (s1.step st) (rv.vr s1)
    · cases hm
  · cases hm
theorem peDict {a : Expr} {m : ML} {p pos : Pos} (e : C.K = X.K) (hc : X.calm = true) (hg : Gl X "dict") (hm : X.mg "dict" = none) (ha : PA X [a] (tR C m)) (hp : plainE a = true) : PE X (.Call (.Name "dict" p) [a] [] pos) (tE C (mFn dDict m)) := by
  refine peImp (pe_callTy (cr_dict hc) hg hm (by decide +kernel) ha (by decide) (by decide) (plain_star hp [] X.env) rfl) fun σ H Q q => ?_
  rw [← e]
  exact tCB_fn q
/-! ### d.get -/
def dGet1 : D → D → Option (D × Bool)
  | .dict ds, k => (match keyOf k with
    | some k => some ((dGet ds k).getD .none, false)
    | none => none)
  | _, _ => none
def mGet2 (mo ma mb : MV) : MV := fun env => match mo env with
  | some (.dict ds, _, e1) => (match ma e1 with
    | some (a, _, e2) => (match mb e2 with
      | some (b, kb, e3) => (match keyOf a with
        | some k => some ((dGet ds k).getD b, .sh, shEnv kb b e3)
        | none => none)
      | none => none)
    | none => none)
  | _ => none
theorem rb_key {K : PySem.W.Frag} {G H : Hp} {v : V} {d : D} {k : Key} (h : RB K G H v d) (hk : keyOf d = some k) : v = kV k := by
  rcases h with h | ⟨p, o, _, _, ho⟩
  · exact key_rp h hk
  · rcases ho with ⟨_, _, _, rfl, _⟩ | ⟨_, _, _, rfl, _⟩
    · cases hk
    · cases hk
theorem peGet1 {o a : Expr} {mo ma : MV} {apos cpos : Pos} (e : C.K = X.K) (hu : X.A.units + 1 < cLine) (ho : PE X o (tE C mo)) (ha : PE X a (tE C ma)) (hp : plainE a = true) (hb : noSuper o = true) (hline : (apos.endLine == cpos.line) = true) :
    PE X (.Call (.Attribute o "get" apos) [a] [] cpos) (tE C (ev2 mo ma dGet1)) := by
  have hst := plain_stars (show [a].all plainE = true by simp [hp]) X.env cpos
  refine peImp (pe_dget1 hu ho ha ⟨noSuper_base hb _ _, ?_, hline, ?_⟩) fun σ H Q q => ?_
  · rw [hst.2]
    rfl
  · rw [plain_star hp [] X.env]
    rfl
  · obtain ⟨env, G, d, k, env', hs, hm, hq⟩ := q
    unfold ev2 at hm
    split at hm
    · rename_i d1 k1 e1 h1
      split at hm
      · rename_i d2 k2 e2 h2
        split at hm
        · rename_i c fr h3
          cases hm
          refine ⟨env, G, d1, k1, e1, hs, h1, fun v H1 G1 hh hg s1 hv => ?_⟩
          obtain ⟨G2, g2, s2, rb⟩ := s1.useR hv
          have hl : ∃ ds, d1 = .dict ds := by
            unfold dGet1 at h3
            split at h3
            · exact ⟨_, rfl⟩
            · cases h3
          obtain ⟨ds, rfl⟩ := hl
          obtain ⟨p, kvs, ev, hd, hr⟩ := rb.dict s2.gh
          simp only [dGet1] at h3
          split at h3
          · rename_i key hkey
            cases h3
            refine ⟨p, ev, .inl ⟨kvs, hd⟩, e1, G2, d2, k2, env', s2, h2, fun u H3 G3 hh3 hg3 s3 hu3 => ?_⟩
            obtain ⟨G4, g4, s4, rb4⟩ := s3.useR hu3
            have hr4 := RpKv.mono (hg3.trans g4) _ _ hr
            refine ⟨valV kvs key, .inl ⟨kvs, key, rd_same hh3 hd, rb_key rb4 hkey, rfl⟩, ?_⟩
            rcases dGet_of key hr4 with ⟨e3, e4⟩ | ⟨v', d', e3, e4, e5⟩
            · rw [e3]
              rw [e4] at hq
              exact hq _ H3 G4 (hh.trans hh3) (hg.trans (g2.trans (hg3.trans g4))) s4 .non
            · rw [e3]
              rw [e4] at hq
              exact hq _ H3 G4 (hh.trans hh3) (hg.trans (g2.trans (hg3.trans g4))) s4 e5
          · cases h3
        · cases hm
      · cases hm
    · cases hm
theorem peGet2 {o a b : Expr} {mo ma mb : MV} {apos cpos : Pos} (hu : X.A.units + 1 < cLine) (ho : PE X o (tE C mo)) (ha : PE X a (tE C ma)) (hb : PE X b (tE C mb)) (hp : plainE a = true) (hp2 : plainE b = true) (hn : noSuper o = true) (hline : (apos.endLine == cpos.line) = true) :
    PE X (.Call (.Attribute o "get" apos) [a, b] [] cpos) (tE C (mGet2 mo ma mb)) := by
  have hst := plain_stars (show [a, b].all plainE = true by simp [hp, hp2]) X.env cpos
  refine peImp (pe_dget2 hu ho ha hb ⟨noSuper_base hn _ _, ?_, hline, ?_⟩) fun σ H Q q => ?_
  · rw [hst.2]
    rfl
  · rw [plain_star hp [b] X.env, plain_star hp2 [] X.env]
    rfl
  · obtain ⟨env, G, d, k, env', hs, hm, hq⟩ := q
    unfold mGet2 at hm
    split at hm
    · rename_i ds k1 e1 h1
      split at hm
      · rename_i d2 k2 e2 h2
        split at hm
        · rename_i d3 k3 e3 h3
          split at hm
          · rename_i key hkey
            cases hm
            refine ⟨env, G, _, k1, e1, hs, h1, fun v H1 G1 hh hg s1 hv => ?_⟩
            obtain ⟨G2, g2, s2, rb⟩ := s1.useR hv
            obtain ⟨p, kvs, ev, hd, hr⟩ := rb.dict s2.gh
            refine ⟨p, ev, .inl ⟨kvs, hd⟩, e1, G2, d2, k2, e2, s2, h2, fun u H3 G3 hh3 hg3 s3 hu3 => ?_⟩
            obtain ⟨G4, g4, s4, rb4⟩ := s3.useR hu3
            refine ⟨e2, G4, d3, k3, e3, s4, h3, fun y H5 G5 hh5 hg5 s5 hv5 => ?_⟩
            obtain ⟨G6, g6, s6, rp6⟩ := s5.useS hv5
            have hr6 := RpKv.mono (hg3.trans (g4.trans (hg5.trans g6))) _ _ hr
            refine ⟨valV kvs key, .inl ⟨kvs, key, rd_same (hh3.trans hh5) hd, rb_key rb4 hkey, rfl⟩, ?_⟩
            rcases dGet_of key hr6 with ⟨z3, z4⟩ | ⟨v', d', z3, z4, z5⟩
            · rw [z3]
              rw [z4] at hq
              exact hq _ H5 G6 (hh.trans (hh3.trans hh5)) (hg.trans (g2.trans (hg3.trans (g4.trans (hg5.trans g6))))) s6 rp6
            · rw [z3]
              rw [z4] at hq
              exact hq _ H5 G6 (hh.trans (hh3.trans hh5)) (hg.trans (g2.trans (hg3.trans (g4.trans (hg5.trans g6))))) s6 z5
          · cases hm
        · cases hm
      · cases hm
    · cases hm
end
end HC
set_option Elab.async false
set_option linter.all false
set_option maxRecDepth 100000
set_option autoImplicit false
/-! HC, part Y: calls with keywords, calls without arguments. -/
namespace HC
open PySem PySem.Spec PyProof.Rows L2
/-- where a parameter's value comes from: a positional argument, a default, a keyword -/
inductive Fil where
  | pos (i : Nat) | dfl (i : Nat) | kw (i : Nat)
def fill {α : Type} (pl : List Fil) (us mv ws : List α) : List α := pl.filterMap fun f => match f with
  | .pos i => us[i]?
  | .dfl i => mv[i]?
  | .kw i => ws[i]?
/-- a call's shape: how many positional arguments, the keywords' names, what lacks -/
structure Shape where
  n : Nat
  ks : List Str
  ms : List (Str × D)
  pl : List Fil
def Shape.put (s : Shape) (ds es : List D) : List D := fill s.pl ds (s.ms.map (·.2)) es
theorem fill_rel {vs mz zs : List V} {us mv ws : List Value} (h1 : Vals vs us) (h2 : Vals mz mv) (h3 : Vals zs ws) : ∀ pl : List Fil, Vals (fill pl vs mz zs) (fill pl us mv ws)
  | [] => .nil
  | f :: pl => by
    have one : ∀ {a : List V} {b : List Value} (i : Nat), Vals a b → (a[i]? = none ∧ b[i]? = none) ∨ ∃ x u, a[i]? = some x ∧ b[i]? = some u ∧ RelV x u := fun {a b} i h => by
      cases q : a[i]? with
      | none => exact .inl ⟨rfl, h.none_of q⟩
      | some x =>
        obtain ⟨u, e, r⟩ := h.get q
        exact .inr ⟨x, u, rfl, e, r⟩
    have ih := fill_rel h1 h2 h3 pl
    unfold fill at ih ⊢
    rw [List.filterMap_cons, List.filterMap_cons]
    cases f with
    | pos i =>
      dsimp only
      rcases one i h1 with ⟨a, b⟩ | ⟨x, u, a, b, r⟩
      · rw [a, b]; exact ih
      · rw [a, b]; exact .cons r ih
    | dfl i =>
      dsimp only
      rcases one i h2 with ⟨a, b⟩ | ⟨x, u, a, b, r⟩
      · rw [a, b]; exact ih
      · rw [a, b]; exact .cons r ih
    | kw i =>
      dsimp only
      rcases one i h3 with ⟨a, b⟩ | ⟨x, u, a, b, r⟩
      · rw [a, b]; exact ih
      · rw [a, b]; exact .cons r ih
theorem fill_rp {K : PySem.W.Frag} {G : Hp} {vs mz zs : List V} {us mv ws : List D} (h1 : RpAll K G vs us) (h2 : RpAll K G mz mv) (h3 : RpAll K G zs ws) : ∀ pl : List Fil, RpAll K G (fill pl vs mz zs) (fill pl us mv ws)
  | [] => .nil
  | f :: pl => by
    have one : ∀ {a : List V} {b : List D} (i : Nat), RpAll K G a b → (a[i]? = none ∧ b[i]? = none) ∨ ∃ x u, a[i]? = some x ∧ b[i]? = some u ∧ Rp K G x u := fun {a b} i h => by
      cases q : a[i]? with
      | none =>
        refine .inl ⟨rfl, ?_⟩
        rw [List.getElem?_eq_none_iff] at q ⊢
        rw [← h.length]
        exact q
      | some x =>
        obtain ⟨u, e, r⟩ := h.getV q
        exact .inr ⟨x, u, rfl, e, r⟩
    have ih := fill_rp h1 h2 h3 pl
    unfold fill at ih ⊢
    rw [List.filterMap_cons, List.filterMap_cons]
    cases f with
    | pos i =>
      dsimp only
      rcases one i h1 with ⟨a, b⟩ | ⟨x, u, a, b, r⟩
      · rw [a, b]; exact ih
      · rw [a, b]; exact .cons r ih
    | dfl i =>
      dsimp only
      rcases one i h2 with ⟨a, b⟩ | ⟨x, u, a, b, r⟩
      · rw [a, b]; exact ih
      · rw [a, b]; exact .cons r ih
    | kw i =>
      dsimp only
      rcases one i h3 with ⟨a, b⟩ | ⟨x, u, a, b, r⟩
      · rw [a, b]; exact ih
      · rw [a, b]; exact .cons r ih
/-- how a def binds a shape -/
def ShB (K : PySem.W.Frag) (fd : FuncData) (ps : List Str) (s : Shape) : Prop := ∃ g gV, KBn K fd ps s.n s.ks g gV ∧
  ∀ (G : Hp) (vs zs : List V) (ds es : List D), RpAll K G vs ds → RpAll K G zs es → RpAll K G (gV vs zs) (s.put ds es)
def mCallS (g : List D → Option (D × Bool)) (s : Shape) (ma mk : ML) : MV := fun env => match ma env with
  | some (ds, e) => if ds.length = s.n then (match mk e with
    | some (es, e2) => if es.length = s.ks.length then (match g (s.put ds es) with
      | some (d, fr) => some (d, kOf fr, e2)
      | none => none) else none
    | none => none) else none
  | none => none
def kwN : Keyword → Option Str
  | ⟨n, _, _⟩ => n
def kwV : Keyword → Expr
  | ⟨_, v, _⟩ => v
section
variable {X : Cx} {C : Cn}
theorem pkS : ∀ {kws : List Keyword} {ms : List MV}, PEall X C (kws.map kwV) ms → PK X kws (tL C (lS ms))
  | [], _, .nil => ⟨fun pos pins s σ H Q I q => by
    obtain ⟨env, G, ds, env', hs, hm, hq⟩ := q
    cases hm
    exact pk_nil.run pos pins s σ H Q I (hq [] H G (Same.refl _) (Same.refl _) hs .nil)⟩
  | ⟨nm, ex, kp⟩ :: es, _, .cons (m := m) (ms := ms) h t => ⟨fun pos pins s σ H Q I q => by
    refine (pk_cons (nm := nm) (kpos := kp) h (pkS t)).run pos pins s σ H Q I ?_
    obtain ⟨env, G, ds, env', hs, hm, hq⟩ := q
    simp only [lS] at hm
    split at hm
    · rename_i d k e1 h1
      split at hm
      · rename_i ds2 e2 h2
        cases hm
        refine ⟨env, G, d, k, e1, hs, h1, fun v H1 G1 hh hg s1 hv => ?_⟩
        obtain ⟨G2, g2, s2, rp⟩ := s1.useS hv
        refine ⟨_, G2, ds2, env', s2, h2, fun vs H3 G3 hh3 hg3 s3 rs => ?_⟩
        exact hq (v :: vs) H3 G3 (hh.trans hh3) (hg.trans (g2.trans hg3)) s3 (.cons (Rp.mono hg3 _ _ rp) rs)
      · cases hm
    · cases hm⟩
theorem kw_each {env : PySem.Env} {pos : Pos} {ks : List Str} : ∀ {kws : List Keyword} {ks : List Str}, kws.map kwN = ks.map some →
    (backToKw pos (keywordEach kws env)).all (·.1.isSome) = true ∧ (backToKw pos (keywordEach kws env)).filterMap (·.1) = ks ∧ (backToKw pos (keywordEach kws env)).any (·.1.isNone) = false
  | [], [], _ => ⟨rfl, rfl, rfl⟩
  | [], _ :: _, h => by cases h
  | _ :: _, [], h => by cases h
  | ⟨nm, ex, kp⟩ :: kws, k :: ks, h => by
    rw [List.map_cons, List.map_cons] at h
    injection h with h1 h2
    have h1' : nm = some k := h1
    subst h1'
    obtain ⟨a, b, c⟩ := kw_each (env := env) (pos := pos) (ks := ks) h2
    have e : backToKw pos (keywordEach (⟨some k, ex, kp⟩ :: kws) env) = (some k, do let v ← eval ex env; standAt pos; pure v) :: backToKw pos (keywordEach kws env) := rfl
    rw [e]
    refine ⟨?_, ?_, ?_⟩
    · rw [List.all_cons, a]; rfl
    · rw [List.filterMap_cons, b]
    · rw [List.any_cons, c]; rfl
theorem run_fnKN {k n : Nat} {f : Addr} {fd : FuncData} {ps ks : List Str} {sp : Sp} {E : XK} {g : List Value → List Value → List Value} {gV : List V → List V → List V} {pins : List (Addr × Obj)} {σ : St} {H : Hp} {s : Shared} {Q : VK} {us ws : List Value} {vs zs : List V} (F : FnK X.prog X.w X.K X.mg X.base k f fd ps sp) (hr : Room k X.A) (hgd : X.A.guards = some [])
    (hb : KBn X.K fd ps n ks g gV) (I : Inv X pins σ H s) (r : Vals vs us) (rz : Vals zs ws) (l1 : vs.length = n) (l2 : zs.length = ks.length) (h : sp (gV vs zs) H Q E) : wpAny (model X.prog X.w) X.A (call (.ref f) us (ks.zip ws)) (EP X pins σ Q) X.xe s := by
  have r2 := hb.rel r rz
  refine wpAny_call (codeAny_mono (F.run X.A X.stack s H ⟨us, ks.zip ws⟩ (g us ws) (gV vs zs) Q E hr hgd I.env0 (hb.to s us ws I.kIn (r.length.symm.trans l1) (rz.length.symm.trans l2)) r2 h) fun r s' hq => ?_)
  cases r with
  | error e => exact False.elim hq
  | ok fl =>
    cases fl with
    | ret u => exact I.after hq
    | _ => exact False.elim hq
theorem tE_callS {g : List D → Option (D × Bool)} {sh : Shape} {ma mk : ML} {E : XK} {gV : List V → List V → List V} {σ : St} {H : Hp} {Q : VK}
    (hV : ∀ (G : Hp) (vs zs : List V) (ds es : List D), RpAll C.K G vs ds → RpAll C.K G zs es → RpAll C.K G (gV vs zs) (sh.put ds es))
    (h : tE C (mCallS g sh ma mk) σ H Q) : tCallN sh.n sh.ks.length (spD C.K g) gV E (tL C ma) (tL C mk) σ H Q := by
  obtain ⟨env, G, d, k, env', hs, hm, hq⟩ := h
  unfold mCallS at hm
  split at hm
  · rename_i ds e h1
    split at hm
    · rename_i hn
      split at hm
      · rename_i es e2 h2
        split at hm
        · rename_i hk
          split at hm
          · rename_i d0 fr h3
            cases hm
            refine ⟨env, G, ds, e, hs, h1, fun vs H1 G1 hh hg s1 rs => ?_⟩
            refine ⟨e, G1, es, env', s1, h2, fun zs H2 G2 hh2 hg2 s2 rz => ⟨rs.length.trans hn, rz.length.trans hk, ?_⟩⟩
            refine ⟨G2, sh.put ds es, d, fr, s2.gh, hV _ _ _ _ _ (RpAll.mono hg2 _ _ rs) rz, h3, fun z H' G' st rv => ?_⟩
            exact hq z H' G' (hh.trans (hh2.trans st.hh)) (hg.trans (hg2.trans st.gg)) (s2.step st) (rv.vr s2)
          · cases hm
        · cases hm
      · cases hm
    · cases hm
  · cases hm
theorem peCallS {k : Nat} {f : Addr} {fd : FuncData} {ps : List Str} {g : List D → Option (D × Bool)} {x : Str} {a : Expr} {as : List Expr} {kws : List Keyword} {ma : ML} {mk : List MV} {sh : Shape} {p pos : Pos} (e : C.K = X.K) (F : FnK X.prog X.w X.K X.mg X.base k f fd ps (spD X.K g)) (hr : Room k X.A) (hgd : X.A.guards = some [])
    (hg : Gl X x) (hm : X.mg x = some (.ref f)) (hk : PySem.W.keepIn X.K (.ref f) = true) (hb : ShB X.K fd ps sh) (ha : PA X (a :: as) (tL C ma)) (hp : (a :: as).all plainE = true) (hkw : PEall X C (kws.map kwV) mk) (hks : kws.map kwN = sh.ks.map some) (hdb : (x == ("__debug__" : Str)) = false) :
    PE X (.Call (.Name x p) (a :: as) kws pos) (tE C (mCallS g sh ma (lS mk))) := by
  obtain ⟨gg, gV, hb, hV⟩ := hb
  obtain ⟨k1, k2, k3⟩ := kw_each (env := X.env) (pos := pos) (ks := sh.ks) hks
  have hp' := hp
  rw [List.all_cons, Bool.and_eq_true] at hp'
  refine ⟨fun pins s σ H Q I h => ?_⟩
  have h' := tE_callS (E := fun _ _ _ => False) (by rw [e]; exact hV) h
  rw [e] at h'
  refine wpAny_Call_Name_kw (ld_glob I hg hm ?_ hdb)
  have pl : ((backTo pos (starEach (a :: as) X.env)).any (·.1) || (backToKw pos (keywordEach kws X.env)).any (·.1.isNone)) = false := by
    rw [k3, plain_star hp'.1 as X.env]
    show ((false || (backTo pos (starEach as X.env)).any (·.1)) || false) = false
    rw [(plain_stars hp'.2 X.env pos).1]
    rfl
  refine PySem.W.callWith_KW (h₀ := X.base) I.ok.mod.kin hk k1 (thn (ha.run pos pins s σ H _ I h') fun us s1 ⟨vs, H1, I1, r, q⟩ => ?_) pl (plain_star hp'.1 as X.env)
  refine thn ((pkS hkw).run pos pins s1 σ H1 _ I1 q) fun ws s2 ⟨zs, H2, I2, rz, l1, l2, q2⟩ => ⟨I2.kIn, ?_⟩
  rw [k2]
  exact run_fnKN F hr hgd hb I2 r rz l1 l2 q2
theorem peCall0 {k : Nat} {f : Addr} {fd : FuncData} {ps : List Str} {g : List D → Option (D × Bool)} {x : Str} {p pos : Pos} (e : C.K = X.K) (F : FnK X.prog X.w X.K X.mg X.base k f fd ps (spD X.K g)) (hr : Room k X.A) (hgd : X.A.guards = some [])
    (hg : Gl X x) (hm : X.mg x = some (.ref f)) (hk : PySem.W.keepIn X.K (.ref f) = true) (hb : Binds X.K fd ps []) (hdb : (x == ("__debug__" : Str)) = false) :
    PE X (.Call (.Name x p) [] [] pos) (tE C (mCall g (lS []))) := by
  refine ⟨fun pins s σ H Q I h => ?_⟩
  refine wpAny_Call_Name_kw (ld_glob I hg hm ?_ hdb)
  have h' := tE_call (E := fun _ _ _ => False) e h
  obtain ⟨env, G, ds, env', hs, hm, hq⟩ := h'
  cases hm
  exact PySem.W.callWith_K0 I.kIn hk (run_fnK (us := []) F hr hgd hb .nil I .nil (hq [] H G (Same.refl _) (Same.refl _) hs .nil))
end
end HC
set_option Elab.async false
set_option linter.all false
set_option maxRecDepth 100000
set_option maxHeartbeats 1000000
set_option autoImplicit false
/-! HC, part Z: sorted(set(x)) of tuples of whole numbers. -/
namespace HC
open PySem PySem.Spec PyProof.Rows L2
/-! ### sorted lists without doubles -/
section
variable {α : Type} [DecidableEq α] (lt : α → α → Bool)
def insB (x : α) : List α → List α
  | [] => [x]
  | y :: ys => if x = y then y :: ys else if lt x y = true then x :: y :: ys else y :: insB x ys
def sortB : List α → List α
  | [] => []
  | x :: xs => insB lt x (sortB xs)
theorem insB_mem {x z : α} : ∀ {l : List α}, z ∈ insB lt x l ↔ z = x ∨ z ∈ l
  | [] => by simp [insB]
  | y :: ys => by
    unfold insB
    split
    · rename_i e
      subst e
      simp
    · split
      · simp
      · rw [List.mem_cons, insB_mem, List.mem_cons]
        constructor
        · rintro (h | h | h)
          · exact .inr (.inl h)
          · exact .inl h
          · exact .inr (.inr h)
        · rintro (h | h | h)
          · exact .inr (.inl h)
          · exact .inl h
          · exact .inr (.inr h)
theorem sortB_mem {z : α} : ∀ {l : List α}, z ∈ sortB lt l ↔ z ∈ l
  | [] => by simp [sortB]
  | y :: ys => by
    unfold sortB
    rw [insB_mem, sortB_mem, List.mem_cons]
variable {lt}
theorem insB_pw (tr : ∀ x y z, lt x y = true → lt y z = true → lt x z = true) {x : α} : ∀ {l : List α}, (∀ y ∈ l, x = y ∨ lt x y = true ∨ lt y x = true) → l.Pairwise (fun a b => lt a b = true) → (insB lt x l).Pairwise (fun a b => lt a b = true)
  | [], _, _ => by simp [insB]
  | y :: ys, tot, h => by
    obtain ⟨h1, h2⟩ := List.pairwise_cons.mp h
    unfold insB
    split
    · exact h
    · rename_i ne
      split
      · rename_i l1
        refine List.pairwise_cons.mpr ⟨fun z hz => ?_, h⟩
        rcases List.mem_cons.mp hz with e | hz
        · rw [e]; exact l1
        · exact tr _ _ _ l1 (h1 z hz)
      · rename_i l1
        refine List.pairwise_cons.mpr ⟨fun z hz => ?_, insB_pw tr (fun z hz => tot z (List.mem_cons_of_mem _ hz)) h2⟩
        rcases (insB_mem lt).mp hz with e | hz
        · rw [e]
          rcases tot y (List.mem_cons_self ..) with e | e | e
          · exact absurd e ne
          · exact absurd e l1
          · exact e
        · exact h1 z hz
theorem sortB_pw (tr : ∀ x y z, lt x y = true → lt y z = true → lt x z = true) : ∀ {l : List α}, (∀ x ∈ l, ∀ y ∈ l, x = y ∨ lt x y = true ∨ lt y x = true) → (sortB lt l).Pairwise (fun a b => lt a b = true)
  | [], _ => by simp [sortB]
  | y :: ys, tot => by
    unfold sortB
    refine insB_pw tr (fun z hz => tot y (List.mem_cons_self ..) z (List.mem_cons_of_mem _ ((sortB_mem lt).mp hz))) (sortB_pw tr fun a ha b hb => tot a (List.mem_cons_of_mem _ ha) b (List.mem_cons_of_mem _ hb))
theorem pw_uniq (irr : ∀ x, lt x x = false) (tr : ∀ x y z, lt x y = true → lt y z = true → lt x z = true) : ∀ {l m : List α}, l.Pairwise (fun a b => lt a b = true) → m.Pairwise (fun a b => lt a b = true) → (∀ x, x ∈ l ↔ x ∈ m) → l = m
  | [], [], _, _, _ => rfl
  | [], y :: ys, _, _, h => by have := (h y).mpr (List.mem_cons_self ..); cases this
  | x :: xs, [], _, _, h => by have := (h x).mp (List.mem_cons_self ..); cases this
  | x :: xs, y :: ys, h1, h2, h => by
    obtain ⟨a1, a2⟩ := List.pairwise_cons.mp h1
    obtain ⟨b1, b2⟩ := List.pairwise_cons.mp h2
    have e : x = y := by
      rcases List.mem_cons.mp ((h x).mp (List.mem_cons_self ..)) with e | p
      · exact e
      · rcases List.mem_cons.mp ((h y).mpr (List.mem_cons_self ..)) with e | q
        · exact e.symm
        · have := tr _ _ _ (b1 x p) (a1 y q)
          rw [irr] at this
          cases this
    subst e
    have ne1 : ∀ z ∈ xs, z ≠ x := fun z hz e => by
      have := a1 z hz
      rw [e, irr] at this
      cases this
    have ne2 : ∀ z ∈ ys, z ≠ x := fun z hz e => by
      have := b1 z hz
      rw [e, irr] at this
      cases this
    refine congrArg (List.cons x) (pw_uniq irr tr a2 b2 fun z => ⟨fun hz => ?_, fun hz => ?_⟩)
    · rcases List.mem_cons.mp ((h z).mp (List.mem_cons_of_mem _ hz)) with e | p
      · exact absurd e (ne1 z hz)
      · exact p
    · rcases List.mem_cons.mp ((h z).mpr (List.mem_cons_of_mem _ hz)) with e | p
      · exact absurd e (ne2 z hz)
      · exact p
end
/-! ### the tuples' order -/
theorem lex_irr : ∀ x : List Int, HT.lexLt x x = false
  | [] => rfl
  | x :: xs => by
    unfold HT.lexLt
    rw [if_pos rfl]
    exact lex_irr xs
theorem lex_tr : ∀ x y z : List Int, HT.lexLt x y = true → HT.lexLt y z = true → HT.lexLt x z = true
  | [], [], z, h1, _ => by cases h1
  | [], _ :: _, [], _, h2 => by cases h2
  | [], _ :: _, _ :: _, _, _ => rfl
  | _ :: _, [], z, h1, _ => by cases h1
  | _ :: _, _ :: _, [], _, h2 => by cases h2
  | a :: x, b :: y, c :: z, h1, h2 => by
    unfold HT.lexLt at h1 h2 ⊢
    split at h1
    · rename_i e
      subst e
      split at h2
      · rename_i e
        subst e
        rw [if_pos rfl]
        exact lex_tr x y z h1 h2
      · rename_i e
        rw [if_neg e]
        exact h2
    · rename_i e
      split at h2
      · rename_i e2
        subst e2
        rw [if_neg e]
        exact h1
      · have q1 := of_decide_eq_true h1
        have q2 := of_decide_eq_true h2
        rw [if_neg (by omega)]
        exact decide_eq_true (by omega)
theorem lex_tot : ∀ x y : List Int, x.length = y.length → x = y ∨ HT.lexLt x y = true ∨ HT.lexLt y x = true
  | [], [], _ => .inl rfl
  | [], _ :: _, h => by cases h
  | _ :: _, [], h => by cases h
  | a :: x, b :: y, h => by
    unfold HT.lexLt
    by_cases e : a = b
    · subst e
      rw [if_pos rfl, if_pos rfl]
      rcases lex_tot x y (by simpa using h) with q | q | q
      · exact .inl (by rw [q])
      · exact .inr (.inl q)
      · exact .inr (.inr q)
    · rw [if_neg e, if_neg (fun z => e z.symm)]
      by_cases l : a < b
      · exact .inr (.inl (decide_eq_true l))
      · exact .inr (.inr (decide_eq_true (by omega)))
theorem lex_code {B : Int} : ∀ {x y : List Int}, x.length = y.length → TS.Bd B x → TS.Bd B y → HT.lexLt x y = true → TS.code B x < TS.code B y
  | [], [], _, _, _, h => by cases h
  | [], _ :: _, h, _, _, _ => by cases h
  | _ :: _, [], h, _, _, _ => by cases h
  | a :: x, b :: y, hl, hx, hy, h => by
    have hl' : x.length = y.length := by simpa using hl
    unfold HT.lexLt at h
    split at h
    · rename_i e
      subst e
      exact (TS.code_same hl').mpr (lex_code hl' hx.tail hy.tail h)
    · exact TS.code_lt hl' hx.tail hy.tail (of_decide_eq_true h)
/-! ### data -/
def intTup : D → Option (List Int)
  | .tuple ds => asInts ds
  | _ => none
def intTups : List D → Option (List (List Int))
  | [] => some []
  | d :: ds => (match intTup d with
    | some n => (match intTups ds with
      | some ns => some (n :: ns)
      | none => none)
    | none => none)
def okTups (ts : List (List Int)) : Bool := match ts with
  | [] => true
  | t :: _ => decide (1 ≤ t.length) && ts.all fun u => decide (u.length = t.length) && u.all fun i => decide (0 ≤ i) && decide (i < 4096)
def tupD (t : List Int) : D := .tuple (t.map .int)
def dSortSet (ds : List D) : Option D := match intTups ds with
  | some ts => if okTups ts = true ∧ ts.length < 64 then some (.list ((sortB HT.lexLt ts).map tupD)) else none
  | none => none
def mSortSet (m : MV) : MV := fun env => match m env with
  | some (.list ds, _, e) => (match dSortSet ds with
    | some d => some (d, .fr, e)
    | none => none)
  | _ => none
theorem okTups_of {ts : List (List Int)} (h : okTups ts = true) : ∃ d, 1 ≤ d ∧ ∀ t ∈ ts, t.length = d ∧ TS.Bd 4096 t := by
  cases ts with
  | nil => exact ⟨1, Nat.le_refl _, fun t ht => by cases ht⟩
  | cons t ts =>
    unfold okTups at h
    rw [Bool.and_eq_true] at h
    refine ⟨t.length, of_decide_eq_true h.1, fun u hu => ?_⟩
    have q := List.all_eq_true.mp h.2 u hu
    rw [Bool.and_eq_true] at q
    refine ⟨of_decide_eq_true q.1, fun i hi => ?_⟩
    have r := List.all_eq_true.mp q.2 i hi
    rw [Bool.and_eq_true] at r
    exact ⟨of_decide_eq_true r.1, of_decide_eq_true r.2⟩
theorem ints_rp {K : PySem.W.Frag} {G : Hp} {ds : List D} {ns : List Int} (e : asInts ds = some ns) : ds = ns.map .int := by
  induction ds generalizing ns with
  | nil => cases e; rfl
  | cons d ds ih =>
    cases d with
    | int i =>
      unfold asInts at e
      cases e2 : asInts ds with
      | none => rw [e2] at e; cases e
      | some ms =>
        rw [e2] at e
        cases e
        rw [ih e2]
        rfl
    | _ => cases e
theorem tups_rp {K : PySem.W.Frag} {G : Hp} : ∀ {vs : List V} {ds : List D} {ts : List (List Int)}, RpAll K G vs ds → intTups ds = some ts →
    ∃ ks : List (Addr × List Int), vs = ks.map (fun p => V.ref p.1) ∧ ts = ks.map (·.2) ∧ ∀ p ∈ ks, SqT K G p.1 (p.2.map V.int)
  | _, [], ts, h, e => by
    cases h
    cases e
    exact ⟨[], rfl, rfl, fun p hp => by cases hp⟩
  | _, d :: ds, ts, h, e => by
    cases h with
    | cons h1 h2 =>
      simp only [intTups] at e
      split at e
      · rename_i n hn
        split at e
        · rename_i ns hns
          cases e
          obtain ⟨ks, e1, e2, e3⟩ := tups_rp h2 hns
          cases d with
          | tuple es =>
            cases h1 with
            | tup hs ha =>
              rename_i a vs'
              have hn' : asInts es = some n := hn
              have ev := ints_of ha hn'
              refine ⟨(a, n) :: ks, by rw [List.map_cons, e1], by rw [List.map_cons, e2], fun p hp => ?_⟩
              rcases List.mem_cons.mp hp with q | q
              · rw [q]
                show SqT K G a (n.map V.int)
                rw [← ev]
                exact hs
              · exact e3 p q
          | _ => cases hn
        · cases e
      · cases e
theorem rp_tups {K : PySem.W.Frag} {G : Hp} : ∀ {ks : List (Addr × List Int)}, (∀ p ∈ ks, SqT K G p.1 (p.2.map V.int)) → RpAll K G (ks.map fun p => V.ref p.1) ((ks.map (·.2)).map tupD)
  | [], _ => .nil
  | p :: ks, h => .cons (.tup (h p (List.mem_cons_self ..)) (rpInts p.2)) (rp_tups fun q hq => h q (List.mem_cons_of_mem _ hq))
where rpInts : ∀ ns : List Int, RpAll K G (ns.map V.int) (ns.map PyData.int)
  | [] => .nil
  | n :: ns => .cons (.int n) (rpInts ns)
section
variable {X : Cx} {C : Cn}
theorem peSortSet {a : Expr} {m : MV} {p p2 pos pos2 : Pos} (e : C.K = X.K) (hc : X.calm = true) (hu : X.A.units + 64 < cLine) (hg : Gl X "sorted") (hm : X.mg "sorted" = none) (hg2 : Gl X "set") (hm2 : X.mg "set" = none) (ha : PE X a (tE C m)) (hp : plainE a = true) :
    PE X (.Call (.Name "sorted" p) [.Call (.Name "set" p2) [a] [] pos2] [] pos) (tE C (mSortSet m)) := by
  refine peImp (pe_callB (cr_sortedT hc) hg hm (by decide +kernel) (pa_cons (pe_callTy (cr_setOfT hc hu) hg2 hm2 (by decide +kernel) (pa_cons ha pa_nil (plain_star hp [] X.env)) (by decide) (by decide) (plain_star hp [] X.env) rfl) pa_nil rfl) (by decide) (by decide) rfl rfl) fun σ H Q q => ?_
  obtain ⟨env, G, d, kd, env', hs, hm', hq⟩ := q
  unfold mSortSet at hm'
  split at hm'
  · rename_i ds k0 e1 h1
    split at hm'
    · rename_i d1 h2
      cases hm'
      unfold dSortSet at h2
      split at h2
      · rename_i ts h3
        split at h2
        · rename_i h4
          cases h2
          obtain ⟨hok, hlen⟩ := h4
          obtain ⟨dd, hd1, hB⟩ := okTups_of hok
          refine ⟨env, G, .list ds, k0, env', hs, h1, fun v H1 G1 hh hg1 s1 hv => ?_⟩
          obtain ⟨G2, g2, s2, rb⟩ := s1.useR hv
          obtain ⟨p0, vs, rfl, rd, ra⟩ := rb.list s2.gh
          obtain ⟨ks, e2, e3, e4⟩ := tups_rp ra h3
          subst e2 e3
          rw [List.length_map] at hlen
          rw [e] at e4
          refine ⟨p0, ks, rfl, rd_sq rd, fun q hq' => sqT_same s2.gh (e4 q hq'), hlen, fun D L hD hL1 hL2 => ?_⟩
          have nD : C.H0 D = none := by
            cases z : C.H0 D with
            | none => rfl
            | some u => rw [s2.h0 _ _ z] at hD; cases hD
          have oD : ∀ (i : Nat) e, env'[i]? = some (some ⟨e, true⟩) → σ[i]? ≠ some (some (.ref D)) := fun i e he hz => by
            obtain ⟨p, o, a1, _, _, a4, _⟩ := s2.ow i e he
            rw [hz] at a1; cases a1; rw [hD] at a4; cases a4
          have s3 := s2.updD (o := SetTO X.prog X.w D L) nD (s2.gh.free hD) oD
          have e5 : ∀ q ∈ L, SqT X.K G2 q.1 (q.2.map V.int) := fun q hq' => e4 q (hL1 q hq')
          refine ⟨D, L, dd, 4096, rfl, upd_same, fun q hq' => sqT_same s3.gh (e5 q hq'), hd1, fun q hq' => hB q.2 (List.mem_map.mpr ⟨q, hL1 q hq', rfl⟩), fun L' p1 pm nd hl64 pw hp1 => ?_⟩
          have hBL : ∀ q ∈ L', q.2.length = dd ∧ TS.Bd 4096 q.2 := fun q hq' => hB q.2 (List.mem_map.mpr ⟨q, hL1 q (pm.mem_iff.mp hq'), rfl⟩)
          have srt : L'.map (·.2) = sortB HT.lexLt (ks.map (·.2)) := by
            refine pw_uniq lex_irr lex_tr ?_ (sortB_pw lex_tr fun x hx y hy => lex_tot x y ((hB x hx).1.trans (hB y hy).1.symm)) fun x => ?_
            · rw [List.pairwise_map]
              have nd' := List.pairwise_map.mp nd
              refine List.Pairwise.imp_of_mem (fun {q r} hq' hr hle => ?_) (List.Pairwise.and pw nd')
              rcases lex_tot q.2 r.2 ((hBL q hq').1.trans (hBL r hr).1.symm) with z | z | z
              · exact absurd z hle.2
              · exact z
              · have := lex_code ((hBL r hr).1.trans (hBL q hq').1.symm) (hBL r hr).2 (hBL q hq').2 z
                have := hle.1
                omega
            · rw [sortB_mem]
              constructor
              · intro hx
                obtain ⟨q, hq', rfl⟩ := List.mem_map.mp hx
                exact List.mem_map.mpr ⟨q, hL1 q (pm.mem_iff.mp hq'), rfl⟩
              · intro hx
                obtain ⟨q, hq', rfl⟩ := List.mem_map.mp hx
                obtain ⟨r, hr, er⟩ := List.mem_map.mp (hL2 q hq')
                exact List.mem_map.mpr ⟨r, pm.mem_iff.mpr hr, er⟩
          have rp : RpAll C.K G2 (L'.map fun q => V.ref q.1) ((sortB HT.lexLt (ks.map (·.2))).map tupD) := by
            rw [← srt, e]
            exact rp_tups fun q hq' => e5 q (pm.mem_iff.mp hq')
          refine res_lst s3.gh (fun z H' G' st rv => ?_) rp hp1
          have sH : Same H1 (upd H1 D (SetTO X.prog X.w D L)) := same_upd hD
          exact hq z H' G' (hh.trans (sH.trans st.hh)) (hg1.trans (g2.trans st.gg)) (s3.step st) (rv.vr s3)
        · cases h2
      · cases h2
    · cases hm'
  · cases hm'
end
end HC
set_option Elab.async false
set_option linter.all false
set_option maxRecDepth 100000
set_option autoImplicit false
/-! HC, part K: the interpreter. -/
namespace HC
open PySem PySem.Spec PyProof.Rows L2
/-- the static context: slots' names, the module's constants, its defs -/
structure Ct where
  N : List Str
  gl : Str → Option D
  cf : Str → List D → Option (D × Bool)
  sh : Str → List Shape
/-- a block's scope, and which of its names have cells of its own -/
structure Sc where
  sc : Scope
  fn : Str → Bool
def isVis (sc : Scope) (x : Str) : Bool := match sc.names.lookup x with
  | some .local => true
  | some .cell => true
  | some .free => true
  | _ => false
def isLoc (sc : Scope) (x : Str) : Bool := match sc.names.lookup x with
  | some .local => true
  | some .cell => true
  | _ => false
def isGlob (sc : Scope) (x : Str) : Bool := match sc.names.lookup x with
  | some .globalImplicit => true
  | _ => false
def okName (x : Str) : Bool := !(x == ("__debug__" : Str)) && !(x == ("__classdict__" : Str))
def ixOf (x : Str) : List Str → Option Nat
  | [] => none
  | y :: ys => if y = x then some 0 else (ixOf x ys).map (· + 1)
def okFn (S : Sc) (x : Str) : Bool := S.fn x || (match S.sc.names.lookup x with
  | some .local => true
  | _ => false)
def mNone : MV := fun _ => none
def biOf (x : Str) : Option Bi :=
  if x = "len" then some .len else if x = "all" then some .all else if x = "any" then some .any else if x = "max" then some .max else if x = "int" then some .int
  else if x = "list" then some .list else if x = "tuple" then some .tuple else if x = "repr" then some .repr else none
def tyOfN (x : Str) : Option Ty :=
  if x = "int" then some .int else if x = "bool" then some .bool else if x = "str" then some .str else if x = "list" then some .list else if x = "tuple" then some .tuple else if x = "dict" then some .dict else none
def mtOf (x : Str) : Option Mt :=
  if x = "append" then some .append else if x = "insert" then some .insert else if x = "reverse" then some .reverse else if x = "clear" then some .clear else none
/-! ### targets -/
def sizeG : List Expr → Nat
  | [] => 0
  | _ :: es => sizeG es + 1
mutual
def gSl (c : Ct) : Nat → Expr → List Nat
  | 0, _ => []
  | n + 1, .Name x _ => (match ixOf x c.N with
    | some i => [i]
    | none => [])
  | n + 1, .Tuple es _ _ => gSls c n es
  | _, _ => []
def gSls (c : Ct) : Nat → List Expr → List Nat
  | 0, _ => []
  | _, [] => []
  | n + 1, e :: es => gSl c n e ++ gSls c n es
end
mutual
def evG (c : Ct) (S : Sc) : Nat → Expr → MG
  | 0, _ => fun _ _ => none
  | n + 1, .Name x _ => (match ixOf x c.N with
    | some i => if isLoc S.sc x && okFn S x then gVar i else fun _ _ => none
    | none => fun _ _ => none)
  | n + 1, .Tuple es _ _ => gTupD es.length (evGs c S n es)
  | _, _ => fun _ _ => none
def evGs (c : Ct) (S : Sc) : Nat → List Expr → List D → Env → Option Env
  | 0, _ => fun _ _ => none
  | _, [] => gsNil
  | n + 1, e :: es => gsCons (evG c S n e) (evGs c S n es)
end
/-! ### expressions -/
def blkOwn (c : Ct) (scope : Scope) : List (Str × Nat) := scope.names.filterMap fun (x, k) => match k with
  | .local => (ixOf x c.N).map fun i => (x, i)
  | .cell => (ixOf x c.N).map fun i => (x, i)
  | _ => none
def blkCap (c : Ct) (scope : Scope) : List Nat := scope.names.filterMap fun (x, k) => match k with
  | .free => ixOf x c.N
  | _ => none
def blkSc (S : Sc) (scope : Scope) : Sc := ⟨relS scope S.sc, fun x => scope.names.lookup x == some .cell⟩
def isM1 : Expr → Bool
  | .UnaryOp .USub (.Constant (.int i) _ _) _ => decide (i = 1)
  | _ => false
def evSub (f : Expr → MV) (a b : Expr) : MV := match b with
  | .Slice lo hi none _ => mSl (f a) (lo.map f) (hi.map f)
  | .Slice none none (some st) _ => if isM1 st = true then ev1 (f a) dRev else mNone
  | b => if plainE b = true then ev2 (f a) (f b) dIx else mNone
def evIsa (S : Sc) (f : Expr → MV) (a : Expr) (as : List Expr) : MV := match as with
  | [.Name t _] => (match tyOfN t with
    | some ty => if isGlob S.sc t = true then ev1 (f a) (dIsaR ty) else mNone
    | none => mNone)
  | _ => mNone
/-- a set's expression -/
def isSetE : Expr → Bool
  | .SetComp _ _ _ _ => true
  | .Call (.Name x _) [_] [] _ => decide (x = "set")
  | _ => false
def evMeth (f : Expr → MV) (o : Expr) (m : Str) (args : List Expr) : MV := match args with
  | [a] => if noSuper o = true ∧ plainE a = true then
      (if m = "index" then ev2 (f o) (f a) dIndex
      else if m = "get" then ev2 (f o) (f a) dGet1 else mNone) else mNone
  | [a, b] => if noSuper o = true ∧ plainE a = true ∧ plainE b = true then
      (if m = "get" then mGet2 (f o) (f a) (f b) else mNone) else mNone
  | _ => mNone
/-- sorted(..) -/
def evSorted (S : Sc) (f : Expr → MV) (a : Expr) : MV := match a with
  | .Call (.Name y _) [b] [] _ => if y = "set" ∧ isGlob S.sc y = true ∧ plainE b = true then mSortSet (f b) else mNone
  | _ => mNone
def evNamed (c : Ct) (S : Sc) (f : Expr → MV) (fs : List Expr → List MV) (fc : Expr → ML) (x : Str) (a : Expr) (as : List Expr) : MV :=
  if x = "isinstance" then evIsa S f a as
  else if x = "len" ∧ as = [] ∧ isSetE a = true then mLenSet (fc a)
  else if x = "dict" then (match as with
    | [] => mFn dDict (lR [f a])
    | _ => mNone)
  else if x = "sorted" then (match as with
    | [] => evSorted S f a
    | _ => mNone)
  else match biOf x with
    | some b => mBi b (lR (f a :: fs as))
    | none => mCall (c.cf x) (lS (f a :: fs as))
def findSh (n : Nat) (ks : List (Option Str)) : List Shape → Option Shape
  | [] => none
  | s :: ss => if s.n = n ∧ s.ks.map some = ks then some s else findSh n ks ss
/-- a call of a def that has keyword-only parameters -/
def evKw (c : Ct) (fs : List Expr → List MV) (x : Str) (args : List Expr) (kws : List Keyword) : MV := match findSh args.length (kws.map kwN) (c.sh x) with
  | some s => mCallS (c.cf x) s (lS (fs args)) (lS (fs (kws.map kwV)))
  | none => mNone
def evCallN (c : Ct) (S : Sc) (f : Expr → MV) (fs : List Expr → List MV) (fc : Expr → ML) (x : Str) (args : List Expr) (kws : List Keyword) : MV :=
  if okName x = true ∧ isGlob S.sc x = true ∧ args.all plainE = true then (match args with
    | [] => if kws = [] ∧ c.sh x = [] then mCall (c.cf x) (lS []) else mNone
    | a :: as => if kws = [] ∧ c.sh x = [] then evNamed c S f fs fc x a as else evKw c fs x (a :: as) kws) else mNone
def evCall (c : Ct) (S : Sc) (f : Expr → MV) (fs : List Expr → List MV) (fc : Expr → ML) (fn : Expr) (args : List Expr) (kws : List Keyword) (cpos : Pos) : MV := match fn with
  | .Name x _ => evCallN c S f fs fc x args kws
  | .Attribute o m apos => if (apos.endLine == cpos.line) = true ∧ kws = [] then evMeth f o m args else mNone
  | _ => mNone
def lcIfs (ft : Expr → MT) (ifs : List Expr) : Option (Option MT) := match ifs with
  | [] => some none
  | [t] => some (some (ft t))
  | _ => none
def lcChk (c : Ct) (S : Sc) (scope : Scope) (iter : Expr) (sl : List Nat) : Bool := blkC c.N S.sc scope (blkOwn c scope) && (plainE iter && (sl.all fun i => (blkOwn c scope).any fun p => decide (p.2 = i)))
def evLc (c : Ct) (S : Sc) (scope : Scope) (asy : Int) (iter : Expr) (sl : List Nat) (mi : ML) (mg : MG) (mt : Option (Option MT)) (me : MV) : MV :=
  if asy = 0 then (if lcChk c S scope iter sl = true then (match mt with
    | some mt => mLc (blkCap c scope) ((blkOwn c scope).map (·.2)) mi mg (mIfs mt) me
    | none => mNone) else mNone) else mNone
def evLc2 (c : Ct) (S : Sc) (scope : Scope) (asy asy1 : Int) (iter iter1 : Expr) (sl vs1 : List Nat) (mi : ML) (mg : MG) (mt : Option (Option MT)) (mi1 : ML) (mg1 : MG) (mt1 : Option (Option MT)) (me : MV) : MV :=
  if asy = 0 ∧ asy1 = 0 ∧ lcChk c S scope iter sl = true ∧ lcChk c S scope iter1 vs1 = true then (match mt with
    | some mt => (match mt1 with
      | some mt1 => mLc2 (blkCap c scope) ((blkOwn c scope).map (·.2)) mi mg (mIfs mt) mi1 vs1 mg1 (mIfs mt1) me
      | none => mNone)
    | none => mNone) else mNone
def evScL (c : Ct) (S : Sc) (scope : Scope) (asy : Int) (iter : Expr) (sl : List Nat) (mi : ML) (mg : MG) (mt : Option (Option MT)) (me : MV) : ML :=
  if asy = 0 then (if lcChk c S scope iter sl = true then (match mt with
    | some mt => mScL (blkCap c scope) ((blkOwn c scope).map (·.2)) mi mg (mIfs mt) me
    | none => fun _ => none) else fun _ => none) else fun _ => none
def call1 : Expr → Option (Str × Expr)
  | .Call (.Name x _) [a] [] _ => some (x, a)
  | _ => none
def call2 : Expr → Option (Str × Expr × Expr)
  | .Call (.Name x _) [a, b] [] _ => some (x, a, b)
  | _ => none
def evIt (S : Sc) (f : Expr → MV) (tg e : Expr) : ML := match call2 e with
  | some (x, a, b) => if x = "zip" then (if isGlob S.sc x = true ∧ plainE a = true ∧ plainE b = true ∧ notTup tg = false then miZip (lS [f a, f b]) else fun _ => none) else miVal (f e)
  | none => match call1 e with
  | some (x, a) => if x = "range" then (if isGlob S.sc x = true ∧ plainE a = true then miRange (lS [f a]) else fun _ => none)
    else if x = "enumerate" then (if isGlob S.sc x = true ∧ plainE a = true ∧ notTup tg = false then miEnum (lS [f a]) else fun _ => none)
    else miVal (f e)
  | none => miVal (f e)
mutual
def ev (c : Ct) (S : Sc) : Nat → Expr → MV
  | 0, _ => mNone
  | n + 1, e => match e with
    | .Constant (.int i) _ _ => mConst (.int i)
    | .Constant (.bool i) _ _ => mConst (.bool i)
    | .Constant .none _ _ => mConst .none
    | .Constant (.str i) _ _ => mConst (.str i)
    | .Name x _ => if okName x = true then (if isVis S.sc x = true then (match ixOf x c.N with
        | some i => mVar i
        | none => mNone) else if isGlob S.sc x = true then (match c.gl x with
        | some d => mConst d
        | none => mNone) else mNone) else mNone
    | .BinOp a op b _ => ev2 (ev c S n a) (ev c S n b) (dBin op)
    | .UnaryOp .USub a _ => ev1 (ev c S n a) dNeg
    | .UnaryOp .Not a _ => ev1 (ev c S n a) dNot
    | .BoolOp .And (e :: es) _ => vAnd (ev c S n e :: evs c S n es)
    | .BoolOp .Or (e :: es) _ => vOr (ev c S n e :: evs c S n es)
    | .Compare a [op] [b] _ => if plainE b = true then ev2 (ev c S n a) (ev c S n b) (dCmpR op) else mNone
    | .Compare a [op, op'] [b, d] _ => if plainE d = true then mChain op op' (ev c S n a) (ev c S n b) (ev c S n d) else mNone
    | .IfExp t a b _ => mIf (evT c S n t) (ev c S n a) (ev c S n b)
    | .Tuple es _ _ => if es.all plainE = true then mTup (lS (evs c S n es)) else mNone
    | .List es _ => if es.all plainE = true then mLst (lS (evs c S n es)) else mNone
    | .Dict [] [] _ => mDct0
    | .Subscript a b _ => evSub (fun y => ev c S n y) a b
    | .Call f args kws pos => evCall c S (fun y => ev c S n y) (fun ys => evs c S n ys) (fun y => evSc c S n y) f args kws pos
    | .ListComp elt [⟨tg, iter, ifs, asy⟩] scope _ => evLc c S scope asy iter (gSl c n tg) (evI c S n tg iter) (evG c (blkSc S scope) n tg) (lcIfs (fun y => evT c (blkSc S scope) n y) ifs) (ev c (blkSc S scope) n elt)
    | .ListComp elt [⟨tg, iter, ifs, asy⟩, ⟨tg1, iter1, ifs1, asy1⟩] scope _ => evLc2 c S scope asy asy1 iter iter1 (gSl c n tg) (gSl c n tg1) (evI c S n tg iter) (evG c (blkSc S scope) n tg) (lcIfs (fun y => evT c (blkSc S scope) n y) ifs) (evI c (blkSc S scope) n tg1 iter1) (evG c (blkSc S scope) n tg1) (lcIfs (fun y => evT c (blkSc S scope) n y) ifs1) (ev c (blkSc S scope) n elt)
    | _ => mNone
def evSc (c : Ct) (S : Sc) : Nat → Expr → ML
  | 0, _ => fun _ => none
  | n + 1, e => match e with
    | .SetComp elt [⟨tg, iter, ifs, asy⟩] scope _ => evScL c S scope asy iter (gSl c n tg) (evI c S n tg iter) (evG c (blkSc S scope) n tg) (lcIfs (fun y => evT c (blkSc S scope) n y) ifs) (ev c (blkSc S scope) n elt)
    | .Call (.Name x _) [a] [] _ => if x = "set" ∧ isGlob S.sc x = true ∧ plainE a = true then mSetL (ev c S n a) else fun _ => none
    | _ => fun _ => none
def evs (c : Ct) (S : Sc) : Nat → List Expr → List MV
  | 0, es => es.map fun _ => mNone
  | _, [] => []
  | n + 1, e :: es => ev c S n e :: evs c S n es
def evT (c : Ct) (S : Sc) : Nat → Expr → MT
  | 0, _ => fun _ => none
  | n + 1, e => match e with
    | .BoolOp .And (e :: es) _ => mAnd (evT c S n e :: evTs c S n es)
    | .BoolOp .Or (e :: es) _ => mOr (evT c S n e :: evTs c S n es)
    | .UnaryOp .Not a _ => mNotT (evT c S n a)
    | .Compare a [op] [b] _ => if plainE b = true then mBool (ev2 (ev c S n a) (ev c S n b) (dCmpR op)) else fun _ => none
    | .Compare a [op, op'] [b, d] _ => if plainE d = true then mBool (mChain op op' (ev c S n a) (ev c S n b) (ev c S n d)) else fun _ => none
    | e => if valE e = true then mTru (ev c S n e) else fun _ => none
def evTs (c : Ct) (S : Sc) : Nat → List Expr → List MT
  | 0, es => es.map fun _ => fun _ => none
  | _, [] => []
  | n + 1, e :: es => evT c S n e :: evTs c S n es
def evI (c : Ct) (S : Sc) : Nat → Expr → Expr → ML
  | 0, _, _ => fun _ => none
  | n + 1, tg, e => evIt S (fun y => ev c S n y) tg e
end
end HC
set_option Elab.async false
set_option linter.all false
set_option maxRecDepth 100000
set_option maxHeartbeats 1000000
set_option autoImplicit false
/-! HC, part L: the interpreter is sound: expressions. -/
namespace HC
open PySem PySem.Spec PyProof.Rows L2
def biNames : List Str := ["len", "all", "any", "max", "int", "list", "tuple", "repr", "isinstance", "bool", "str", "dict", "range", "enumerate", "set", "zip", "sorted", "reversed", "min"]
/-- what the context of a piece of code has to be -/
structure Good (c : Ct) (S : Sc) (k : Nat) (X : Cx) : Prop where
  N : X.N = c.N
  nd : c.N.Nodup
  sc : X.env.scope = S.sc
  fn : X.fn = S.fn
  kd : S.sc.kind = .function
  calm : X.calm = true
  low : Low X
  gd : X.A.guards = some []
  rm : Room k X.A
  hp : PassesOwn (model X.prog X.w) X.A X.env X.xe
  bi : ∀ x ∈ biNames, X.mg x = none
  gl : ∀ x d, c.gl x = some d → ∃ u v, X.mg x = some u ∧ RelV v u ∧ ∀ G, Rp X.K G v d
  cf : ∀ x ds r, c.cf x ds = some r → ∃ f fd ps, FnK X.prog X.w X.K X.mg X.base k f fd ps (spD X.K (c.cf x)) ∧ X.mg x = some (.ref f) ∧ PySem.W.keepIn X.K (.ref f) = true ∧ (c.sh x = [] → Binds X.K fd ps []) ∧ ∀ s ∈ c.sh x, ShB X.K fd ps s
theorem Good.blk {c : Ct} {S : Sc} {k : Nat} {X : Cx} (g : Good c S k X) {scope : Scope} (hk : scope.kind = .function) : Blk X scope fun Y => Good c (blkSc S scope) k Y := fun s H Ca cl fp =>
  { N := g.N
    nd := g.nd
    sc := by
      show relabel scope X.env = relS scope S.sc
      rw [← g.sc]
      rfl
    fn := rfl
    kd := hk
    calm := g.calm
    low := g.low
    gd := g.gd
    rm := g.rm
    hp := PassesOwn.never
    bi := g.bi
    gl := g.gl
    cf := g.cf }
section
variable {c : Ct} {S : Sc} {k : Nat} {X : Cx} {C : Cn}
theorem Good.u65 (g : Good c S k X) : X.A.units + 65 < cLine := by have := g.rm.un; omega
theorem Good.u70 (g : Good c S k X) : X.A.units + 70 < cLine := by have := g.rm.un; omega
theorem Good.u1 (g : Good c S k X) : X.A.units + 1 < cLine := by have := g.rm.un; omega
theorem peNone {e : Expr} : PE X e (tE C mNone) := ⟨fun _ _ _ _ _ _ h => by obtain ⟨_, _, _, _, _, _, h, _⟩ := h; cases h⟩
theorem pscNone {e : Expr} : PE X e (tSet X.prog X.w C fun _ => none) := ⟨fun _ _ _ _ _ _ h => by obtain ⟨_, _, _, _, _, _, h, _⟩ := h; cases h⟩
theorem ptNone {e : Expr} : PT X e (tT C fun _ => none) := ⟨fun _ _ _ _ _ _ h => by obtain ⟨_, _, _, _, _, h, _⟩ := h; cases h⟩
theorem piNone {tg e : Expr} : PI X tg e (tI C fun _ => none) := ⟨fun _ _ _ _ _ _ h => by obtain ⟨_, _, _, _, _, h, _⟩ := h; cases h⟩
theorem ixOf_get {x : Str} : ∀ {N : List Str} {i : Nat}, ixOf x N = some i → N[i]? = some x
  | [], i, h => by cases h
  | y :: ys, i, h => by
    unfold ixOf at h
    split at h
    · rename_i e
      cases h
      rw [e]; rfl
    · cases q : ixOf x ys with
      | none => rw [q] at h; cases h
      | some j =>
        rw [q] at h
        cases h
        have := ixOf_get q
        simpa using this
theorem vis_of {sc : Scope} {x : Str} (h : isVis sc x = true) : Vis sc x := by
  unfold isVis at h
  split at h
  · exact .inl ‹_›
  · exact .inr (.inl ‹_›)
  · exact .inr (.inr ‹_›)
  · cases h
theorem loc_of {sc : Scope} {x : Str} (h : isLoc sc x = true) : Loc sc x := by
  unfold isLoc at h
  split at h
  · exact .inl ‹_›
  · exact .inr ‹_›
  · cases h
theorem glob_of {sc : Scope} {x : Str} (h : isGlob sc x = true) : sc.names.lookup x = some .globalImplicit := by
  unfold isGlob at h
  split at h
  · assumption
  · cases h
theorem okName_of {x : Str} (h : okName x = true) : (x == ("__debug__" : Str)) = false ∧ (x == ("__classdict__" : Str)) = false := by
  unfold okName at h
  rw [Bool.and_eq_true] at h
  exact ⟨by simpa using h.1, by simpa using h.2⟩
theorem okFn_of {x : Str} (h : okFn S x = true) : S.fn x = true ∨ S.sc.names.lookup x = some .local := by
  unfold okFn at h
  rw [Bool.or_eq_true] at h
  rcases h with h | h
  · exact .inl h
  · right
    split at h
    · assumption
    · cases h
theorem Good.gl' (g : Good c S k X) {x : Str} (h : isGlob S.sc x = true) : Gl X x := by
  show X.env.scope.names.lookup x = _
  rw [g.sc]
  exact glob_of h
/-! ### targets -/
theorem assignEach_name (e : Expr) (es : List Expr) (env : PySem.Env) (h : plainE e = true) : assignEach (e :: es) env = (false, assign e env) :: assignEach es env := by
  cases e <;> first | rfl | (cases h; done)
theorem pgNone {e : Expr} {sl : List Nat} : PG X e (tG C sl fun _ _ => none) := ⟨fun _ _ _ _ _ _ _ _ _ h => by obtain ⟨_, _, _, _, _, _, h, _⟩ := h; cases h⟩
theorem pgsNone {e : List Expr} {sl : List Nat} : PGs X e (tGs C sl fun _ _ => none) := ⟨fun _ _ _ _ _ _ _ _ _ h => by obtain ⟨_, _, _, _, _, _, h, _⟩ := h; cases h⟩
def plainG : Expr → Bool
  | .Name _ _ => true
  | .Tuple _ _ _ => true
  | _ => false
theorem assignEach_G (e : Expr) (es : List Expr) (env : PySem.Env) (h : plainG e = true) : assignEach (e :: es) env = (false, assign e env) :: assignEach es env := by
  cases e <;> first | rfl | (cases h; done)
theorem len_G {env : PySem.Env} : ∀ {ts : List Expr}, (ts.all plainG) = true → (assignEach ts env).length = ts.length
  | [], _ => rfl
  | t :: ts, h => by
    rw [List.all_cons, Bool.and_eq_true] at h
    rw [assignEach_G t ts env h.1, List.length_cons, List.length_cons, len_G h.2]
theorem idx_G {env : PySem.Env} : ∀ {ts : List Expr}, (ts.all plainG) = true → (assignEach ts env).findIdx? (·.1) = none
  | [], _ => rfl
  | t :: ts, h => by
    rw [List.all_cons, Bool.and_eq_true] at h
    rw [assignEach_G t ts env h.1, List.findIdx?_cons]
    simp [idx_G h.2]
theorem evG_plain {n : Nat} {t : Expr} {d : D} {env env' : Env} (h : evG c S n t d env = some env') : plainG t = true := by
  cases n with
  | zero => cases h
  | succ n => cases t <;> first | rfl | (cases h; done)
theorem evGs_plain : ∀ {n : Nat} {es : List Expr} {ds : List D} {env env' : Env}, evGs c S n es ds env = some env' → (es.all plainG) = true
  | 0, es, ds, env, env', h => by cases h
  | n + 1, [], ds, env, env', _ => rfl
  | n + 1, e :: es, ds, env, env', h => by
    simp only [evGs] at h
    cases ds with
    | nil => cases h
    | cons d ds =>
      simp only [gsCons] at h
      split at h
      · rename_i e1 h1
        rw [List.all_cons, Bool.and_eq_true]
        exact ⟨evG_plain h1, evGs_plain h⟩
      · cases h
theorem pgDo {t : Expr} {sl : List Nat} {m : MG} (h : (∃ d env env', m d env = some env') → PG X t (tG C sl m)) : PG X t (tG C sl m) :=
  ⟨fun pins s σ H v u Q I r q => by
    obtain ⟨env, G, d, env', hs, rp, hm, hq⟩ := id q
    exact (h ⟨d, env, env', hm⟩).run pins s σ H v u Q I r q⟩
theorem pgsDo {t : List Expr} {sl : List Nat} {m : List D → Env → Option Env} (h : (∃ d env env', m d env = some env') → PGs X t (tGs C sl m)) : PGs X t (tGs C sl m) :=
  ⟨fun pins s σ H v u Q I r q => by
    obtain ⟨env, G, d, env', hs, rp, hm, hq⟩ := id q
    exact (h ⟨d, env, env', hm⟩).run pins s σ H v u Q I r q⟩
mutual
theorem snd_G (g : Good c S k X) (e : C.K = X.K) : ∀ (n : Nat) (t : Expr), PG X t (tG C (gSl c n t) (evG c S n t))
  | 0, t => pgNone
  | n + 1, t => by
    cases t with
    | Name x p =>
      simp only [evG, gSl]
      cases q : ixOf x c.N with
      | none => exact pgNone
      | some i =>
        dsimp only
        split
        · rename_i h
          rw [Bool.and_eq_true] at h
          refine pgVar (by rw [g.N]; exact g.nd) (by rw [g.N]; exact ixOf_get q) (by rw [g.sc]; exact loc_of h.1) ?_
          rw [g.fn, g.sc]
          exact okFn_of h.2
        · exact pgNone
    | Tuple es kk p =>
      simp only [evG, gSl]
      refine pgDo fun ⟨d, env, env', hm⟩ => ?_
      unfold gTupD at hm
      split at hm
      · split at hm
        · have hz := evGs_plain hm
          exact pgTup e g.calm (snd_Gs g e n es) (len_G hz) (idx_G hz)
        · cases hm
      · cases hm
    | _ => exact pgNone
theorem snd_Gs (g : Good c S k X) (e : C.K = X.K) : ∀ (n : Nat) (ts : List Expr), PGs X ts (tGs C (gSls c n ts) (evGs c S n ts))
  | 0, ts => pgsNone
  | n + 1, [] => pgsNil
  | n + 1, t :: ts => by
    simp only [evGs, gSls]
    refine pgsDo fun ⟨d, env, env', hm⟩ => ?_
    cases d with
    | nil => cases hm
    | cons d ds =>
      simp only [gsCons] at hm
      split at hm
      · rename_i e1 h1
        exact pgsCons (snd_G g e n t) (snd_Gs g e n ts) (assignEach_G t ts X.env (evG_plain h1))
      · cases hm
end
/-! ### expressions -/
theorem peDo {e : Expr} {m : MV} (h : (∃ env r, m env = some r) → PE X e (tE C m)) : PE X e (tE C m) :=
  ⟨fun pins s σ H Q I q => by
    obtain ⟨env, G, d, k, env', hs, hm, hq⟩ := id q
    exact (h ⟨env, _, hm⟩).run pins s σ H Q I q⟩
theorem biOf_name {x : Str} {b : Bi} (h : biOf x = some b) : x = biName b := by
  unfold biOf at h
  repeat (split at h; · rename_i e; cases h; exact e)
  cases h
theorem tyOf_name {x : Str} {t : Ty} (h : tyOfN x = some t) : x = tyStr t := by
  unfold tyOfN at h
  repeat (split at h; · rename_i e; cases h; exact e)
  cases h
theorem biName_in (b : Bi) : biName b ∈ biNames := by cases b <;> decide
theorem tyName_in (t : Ty) : tyStr t ∈ biNames := by cases t <;> decide
/-- what is proved of all expressions at once, by the fuel -/
structure Snd (c : Ct) (n : Nat) : Prop where
  e : ∀ {S k X C}, Good c S k X → C.K = X.K → C.N = X.N → ∀ x, PE X x (tE C (ev c S n x))
  es : ∀ {S k X C}, Good c S k X → C.K = X.K → C.N = X.N → ∀ xs, PEall X C xs (evs c S n xs)
  t : ∀ {S k X C}, Good c S k X → C.K = X.K → C.N = X.N → ∀ x, PT X x (tT C (evT c S n x))
  ts : ∀ {S k X C}, Good c S k X → C.K = X.K → C.N = X.N → ∀ xs, PTall X C xs (evTs c S n xs)
  i : ∀ {S k X C}, Good c S k X → C.K = X.K → C.N = X.N → ∀ tg x, PI X tg x (tI C (evI c S n tg x))
  sc : ∀ {S k X C}, Good c S k X → C.K = X.K → C.N = X.N → ∀ x, PE X x (tSet X.prog X.w C (evSc c S n x))
theorem PEall.nones : ∀ xs : List Expr, PEall X C xs (xs.map fun _ => mNone)
  | [] => .nil
  | _ :: xs => .cons peNone (PEall.nones xs)
theorem PTall.nones : ∀ xs : List Expr, PTall X C xs (xs.map fun _ => fun _ => none)
  | [] => .nil
  | _ :: xs => .cons ptNone (PTall.nones xs)
theorem snd0 (c : Ct) : Snd c 0 where
  e := fun _ _ _ _ => peNone
  es := fun _ _ _ xs => by cases xs <;> exact PEall.nones _
  t := fun _ _ _ _ => ptNone
  ts := fun _ _ _ xs => by cases xs <;> exact PTall.nones _
  i := fun _ _ _ _ _ => piNone
  sc := fun _ _ _ _ => pscNone
theorem sl_in {own : List (Str × Nat)} {sl : List Nat} (h : (sl.all fun i => own.any fun p => decide (p.2 = i)) = true) : ∀ i ∈ sl, i ∈ own.map (·.2) := fun i hi => by
  have h1 := List.all_eq_true.mp h i hi
  obtain ⟨p, hp, e⟩ := List.any_eq_true.mp h1
  exact List.mem_map.mpr ⟨p, hp, of_decide_eq_true e⟩
/-- the parts of a comprehension -/
structure LcOk (c : Ct) (S : Sc) (n : Nat) (X : Cx) (C : Cn) (elt tg iter : Expr) (ifs : List Expr) (scope : Scope) (mt : Option MT) : Prop where
  ok : BlkOk X.N X.env.scope scope (blkOwn c scope)
  pl : plainE iter = true
  sl : ∀ i ∈ gSl c n tg, i ∈ (blkOwn c scope).map (·.2)
  hi : PI X tg iter (tI C (evI c S n tg iter))
  hg : Blk X scope fun Y => ∀ C', C'.K = X.K → C'.N = X.N → PG Y tg (tG C' (gSl c n tg) (evG c (blkSc S scope) n tg))
  ht : Blk X scope fun Y => ∀ C', C'.K = X.K → C'.N = X.N → OptT Y C' ifs mt
  he : Blk X scope fun Y => ∀ C', C'.K = X.K → C'.N = X.N → PE Y elt (tE C' (ev c (blkSc S scope) n elt))
theorem lcOk {n : Nat} (I : Snd c n) (g : Good c S k X) (e : C.K = X.K) (eN : C.N = X.N) {elt tg iter : Expr} {ifs : List Expr} {scope : Scope} {mt : Option MT} (h : lcChk c S scope iter (gSl c n tg) = true) (hm : lcIfs (fun y => evT c (blkSc S scope) n y) ifs = some mt) : LcOk c S n X C elt tg iter ifs scope mt := by
  unfold lcChk at h
  rw [Bool.and_eq_true, Bool.and_eq_true] at h
  have ok : BlkOk X.N X.env.scope scope (blkOwn c scope) := by
    rw [g.N, g.sc]
    exact blkOk_by h.1
  have gb := g.blk ok.kind
  refine ⟨ok, h.2.1, sl_in h.2.2, I.i g e eN tg iter, fun s H Ca cl fp C' h1 h2 => snd_G (gb s H Ca cl fp) h1 n tg, fun s H Ca cl fp C' h1 h2 => ?_, fun s H Ca cl fp C' h1 h2 => I.e (gb s H Ca cl fp) h1 h2 elt⟩
  unfold lcIfs at hm
  split at hm
  · cases hm; trivial
  · cases hm; exact I.t (gb s H Ca cl fp) h1 h2 _
  · cases hm
theorem evLc_some {scope : Scope} {asy : Int} {iter : Expr} {sl : List Nat} {mi : ML} {mg : MG} {mt : Option (Option MT)} {me : MV} {env : Env} {r : D × Kd × Env} (h : evLc c S scope asy iter sl mi mg mt me env = some r) :
    asy = 0 ∧ lcChk c S scope iter sl = true ∧ ∃ mt', mt = some mt' ∧ evLc c S scope asy iter sl mi mg mt me = mLc (blkCap c scope) ((blkOwn c scope).map (·.2)) mi mg (mIfs mt') me := by
  unfold evLc at h ⊢
  split at h
  · rename_i h0
    split at h
    · rename_i h1
      cases mt with
      | none => cases h
      | some mt => exact ⟨h0, h1, mt, rfl, by rw [if_pos h0, if_pos h1]⟩
    · cases h
  · cases h
theorem isM1_of {st : Expr} (h : isM1 st = true) : ∃ k p1 p2, st = .UnaryOp .USub (.Constant (.int 1) k p1) p2 := by
  unfold isM1 at h
  split at h
  · have := of_decide_eq_true h
    subst this
    exact ⟨_, _, _, rfl⟩
  · cases h
theorem POpt.map {f : Expr → MV} (h : ∀ y, PE X y (tE C (f y))) : ∀ o : Option Expr, POpt X C o (o.map f)
  | none => trivial
  | some y => h y
theorem sndSub {f : Expr → MV} (g : Good c S k X) (e : C.K = X.K) (go : ∀ y, PE X y (tE C (f y))) {a b : Expr} {p : Pos} {env : Env} {r : D × Kd × Env} (hr : evSub f a b env = some r) : PE X (.Subscript a b p) (tE C (evSub f a b)) := by
  unfold evSub at hr ⊢
  split at hr
  · exact peSl e (go _) (POpt.map go _) (POpt.map go _)
  · split at hr
    · rename_i h
      rw [if_pos h]
      obtain ⟨_, _, _, rfl⟩ := isM1_of h
      exact peRev e (go _)
    · cases hr
  · split at hr
    · rename_i hp
      rw [if_pos hp]
      exact peIx e g.u1 (go _) (go _) hp
    · cases hr
theorem sndMeth {f : Expr → MV} (g : Good c S k X) (e : C.K = X.K) (go : ∀ y, PE X y (tE C (f y))) {o : Expr} {m : Str} {args : List Expr} {apos p : Pos} (hl : (apos.endLine == p.line) = true) : PE X (.Call (.Attribute o m apos) args [] p) (tE C (evMeth f o m args)) := by
  unfold evMeth
  split
  · split
    · rename_i h
      split
      · rename_i hm
        subst hm
        exact peIndex e g.u65 (go _) (go _) h.2 h.1 hl
      · split
        · rename_i hm
          subst hm
          exact peGet1 e g.u1 (go _) (go _) h.2 h.1 hl
        · exact peNone
    · exact peNone
  · split
    · rename_i h
      split
      · rename_i hm
        subst hm
        exact peGet2 g.u1 (go _) (go _) (go _) h.2.1 h.2.2 h.1 hl
      · exact peNone
    · exact peNone
  · exact peNone
theorem sndIsa {f : Expr → MV} (g : Good c S k X) (e : C.K = X.K) (go : ∀ y, PE X y (tE C (f y))) {a : Expr} {as : List Expr} {p pos : Pos} (hg : isGlob S.sc "isinstance" = true) (hp : plainE a = true) : PE X (.Call (.Name "isinstance" p) (a :: as) [] pos) (tE C (evIsa S f a as)) := by
  unfold evIsa
  split
  · rename_i t pt
    cases ht : tyOfN t with
    | none => exact peNone
    | some ty =>
      dsimp only
      split
      · rename_i hgt
        have et := tyOf_name ht
        subst et
        exact peIsa e (g.gl' hg) (g.bi _ (by decide)) (g.gl' hgt) (g.bi _ (tyName_in ty)) (go a) hp
      · exact peNone
  · exact peNone
theorem sndSorted {f : Expr → MV} (g : Good c S k X) (e : C.K = X.K) (go : ∀ y, PE X y (tE C (f y))) {a : Expr} {p pos : Pos} (hg : isGlob S.sc "sorted" = true) : PE X (.Call (.Name "sorted" p) [a] [] pos) (tE C (evSorted S f a)) := by
  unfold evSorted
  split
  · split
    · rename_i h
      obtain ⟨rfl, h2, h3⟩ := h
      exact peSortSet e g.calm (by have := g.u65; omega) (g.gl' hg) (g.bi _ (by decide)) (g.gl' h2) (g.bi _ (by decide)) (go _) h3
    · exact peNone
  · exact peNone
theorem sndNamed {f : Expr → MV} {fs : List Expr → List MV} {fc : Expr → ML} (g : Good c S k X) (e : C.K = X.K) (go : ∀ y, PE X y (tE C (f y))) (gos : ∀ ys, PEall X C ys (fs ys)) (gc : ∀ y, PE X y (tSet X.prog X.w C (fc y))) {x : Str} {a : Expr} {as : List Expr} {p pos : Pos}
    (hok : okName x = true) (hg : isGlob S.sc x = true) (hp : (a :: as).all plainE = true) (hsh : c.sh x = []) {env : Env} {r : D × Kd × Env} (hr : evNamed c S f fs fc x a as env = some r) : PE X (.Call (.Name x p) (a :: as) [] pos) (tE C (evNamed c S f fs fc x a as)) := by
  obtain ⟨hd, hcd⟩ := okName_of hok
  have hp' := hp
  rw [List.all_cons, Bool.and_eq_true] at hp'
  unfold evNamed at hr ⊢
  by_cases h1 : x = "isinstance"
  · subst h1
    rw [if_pos rfl]
    exact sndIsa g e go hg hp'.1
  rw [if_neg h1] at hr ⊢
  by_cases h2 : x = "len" ∧ as = [] ∧ isSetE a = true
  · rw [if_pos h2]
    obtain ⟨rfl, rfl, _⟩ := h2
    exact peLenSet (g.gl' hg) (g.bi _ (by decide)) (gc a) hp'.1
  rw [if_neg h2] at hr ⊢
  by_cases h3 : x = "dict"
  · subst h3
    rw [if_pos rfl]
    cases as with
    | nil => exact peDict e g.calm (g.gl' hg) (g.bi _ (by decide)) (paR hp (.cons (go a) .nil)) hp'.1
    | cons _ _ => exact peNone
  rw [if_neg h3] at hr ⊢
  by_cases h4 : x = "sorted"
  · subst h4
    rw [if_pos rfl]
    cases as with
    | nil => exact sndSorted g e go hg
    | cons _ _ => exact peNone
  rw [if_neg h4] at hr ⊢
  cases hb : biOf x with
  | some b =>
    have eb := biOf_name hb
    subst eb
    exact peBi e g.low g.calm g.gd g.u70 (g.gl' hg) (g.bi _ (biName_in b)) (paR hp (.cons (go a) (gos as))) hp
  | none =>
    rw [hb] at hr
    dsimp only at hr ⊢
    unfold mCall at hr
    split at hr
    · rename_i ds e1 h1
      split at hr
      · rename_i d fr h2
        obtain ⟨fa, fd, ps, F, hm, hk, hB, _⟩ := g.cf _ ds _ h2
        exact peCall e F g.rm g.gd (g.gl' hg) hm hk (hB hsh) (paS hp (.cons (go a) (gos as))) hp hd
      · cases hr
    · cases hr
theorem findSh_of {n : Nat} {ks : List (Option Str)} {sh : Shape} : ∀ {l : List Shape}, findSh n ks l = some sh → sh ∈ l ∧ ks = sh.ks.map some
  | [], h => by cases h
  | s :: ss, h => by
    unfold findSh at h
    split at h
    · rename_i q
      cases h
      exact ⟨List.mem_cons_self .., q.2.symm⟩
    · obtain ⟨a, b⟩ := findSh_of h
      exact ⟨List.mem_cons_of_mem _ a, b⟩
theorem sndKw {fs : List Expr → List MV} (g : Good c S k X) (e : C.K = X.K) (gos : ∀ ys, PEall X C ys (fs ys)) {x : Str} {a : Expr} {as : List Expr} {kws : List Keyword} {p pos : Pos}
    (hok : okName x = true) (hg : isGlob S.sc x = true) (hp : (a :: as).all plainE = true) {env : Env} {r : D × Kd × Env} (hr : evKw c fs x (a :: as) kws env = some r) : PE X (.Call (.Name x p) (a :: as) kws pos) (tE C (evKw c fs x (a :: as) kws)) := by
  obtain ⟨hd, hcd⟩ := okName_of hok
  unfold evKw at hr ⊢
  cases hs : findSh (a :: as).length (kws.map kwN) (c.sh x) with
  | none => rw [hs] at hr; cases hr
  | some sh =>
    rw [hs] at hr
    dsimp only at hr ⊢
    obtain ⟨hm1, hk1⟩ := findSh_of hs
    unfold mCallS at hr
    split at hr
    · split at hr
      · split at hr
        · split at hr
          · split at hr
            · rename_i h2
              obtain ⟨fa, fd, ps, F, hm, hk, _, hB⟩ := g.cf _ _ _ h2
              exact peCallS e F g.rm g.gd (g.gl' hg) hm hk (hB sh hm1) (paS hp (gos (a :: as))) hp (gos _) hk1 hd
            · cases hr
          · cases hr
        · cases hr
      · cases hr
    · cases hr
theorem sndCall0 {x : Str} {p pos : Pos} (g : Good c S k X) (e : C.K = X.K) (hok : okName x = true) (hg : isGlob S.sc x = true) (hsh : c.sh x = []) {env : Env} {r : D × Kd × Env} (hr : mCall (c.cf x) (lS []) env = some r) : PE X (.Call (.Name x p) [] [] pos) (tE C (mCall (c.cf x) (lS []))) := by
  obtain ⟨hd, hcd⟩ := okName_of hok
  unfold mCall at hr
  split at hr
  · split at hr
    · rename_i h2
      obtain ⟨fa, fd, ps, F, hm, hk, hB, _⟩ := g.cf _ _ _ h2
      exact peCall0 e F g.rm g.gd (g.gl' hg) hm hk (hB hsh) hd
    · cases hr
  · cases hr
theorem sndCall {f : Expr → MV} {fs : List Expr → List MV} {fc : Expr → ML} (g : Good c S k X) (e : C.K = X.K) (go : ∀ y, PE X y (tE C (f y))) (gos : ∀ ys, PEall X C ys (fs ys)) (gc : ∀ y, PE X y (tSet X.prog X.w C (fc y))) {fn : Expr} {args : List Expr} {kws : List Keyword} {p : Pos} {env : Env} {r : D × Kd × Env} (hr : evCall c S f fs fc fn args kws p env = some r) : PE X (.Call fn args kws p) (tE C (evCall c S f fs fc fn args kws p)) := by
  unfold evCall at hr ⊢
  split at hr
  · unfold evCallN at hr ⊢
    split at hr
    · rename_i hc
      rw [if_pos hc]
      cases args with
      | nil =>
        dsimp only at hr ⊢
        split at hr
        · rename_i h0
          rw [if_pos h0]
          obtain ⟨h1, h2⟩ := h0
          subst h1
          exact sndCall0 g e hc.1 hc.2.1 h2 hr
        · cases hr
      | cons a as =>
        dsimp only at hr ⊢
        split at hr
        · rename_i h0
          rw [if_pos h0]
          obtain ⟨h1, h2⟩ := h0
          subst h1
          exact sndNamed g e go gos gc hc.1 hc.2.1 hc.2.2 h2 hr
        · rename_i h0
          rw [if_neg h0]
          exact sndKw g e gos hc.1 hc.2.1 hc.2.2 hr
    · cases hr
  · split at hr
    · rename_i hl
      rw [if_pos hl]
      obtain ⟨h1, h2⟩ := hl
      subst h2
      exact sndMeth g e go h1
    · cases hr
  · cases hr
theorem evLc2_some {scope : Scope} {asy asy1 : Int} {iter iter1 : Expr} {sl vs1 : List Nat} {mi mi1 : ML} {mg mg1 : MG} {mt mt1 : Option (Option MT)} {me : MV} {env : Env} {r : D × Kd × Env} (h : evLc2 c S scope asy asy1 iter iter1 sl vs1 mi mg mt mi1 mg1 mt1 me env = some r) :
    asy = 0 ∧ asy1 = 0 ∧ lcChk c S scope iter sl = true ∧ lcChk c S scope iter1 vs1 = true ∧ ∃ mt' mt1', mt = some mt' ∧ mt1 = some mt1' ∧ evLc2 c S scope asy asy1 iter iter1 sl vs1 mi mg mt mi1 mg1 mt1 me = mLc2 (blkCap c scope) ((blkOwn c scope).map (·.2)) mi mg (mIfs mt') mi1 vs1 mg1 (mIfs mt1') me := by
  unfold evLc2 at h ⊢
  split at h
  · rename_i h0
    rw [if_pos h0]
    cases mt with
    | none => cases h
    | some mt =>
      cases mt1 with
      | none => cases h
      | some mt1 => exact ⟨h0.1, h0.2.1, h0.2.2.1, h0.2.2.2, mt, mt1, rfl, rfl, rfl⟩
  · cases h
theorem lc2Ok {n : Nat} (I : Snd c n) (g : Good c S k X) (e : C.K = X.K) (eN : C.N = X.N) {elt tg iter tg1 iter1 : Expr} {ifs ifs1 : List Expr} {scope : Scope} {mt mt1 : Option MT} (h : lcChk c S scope iter (gSl c n tg) = true) (h1 : lcChk c S scope iter1 (gSl c n tg1) = true)
    (hm : lcIfs (fun y => evT c (blkSc S scope) n y) ifs = some mt) (hm1 : lcIfs (fun y => evT c (blkSc S scope) n y) ifs1 = some mt1) :
    Lc2Ok X C elt tg iter tg1 iter1 ifs ifs1 scope (blkOwn c scope) (gSl c n tg) (gSl c n tg1) (evI c S n tg iter) (evI c (blkSc S scope) n tg1 iter1) (evG c (blkSc S scope) n tg) (evG c (blkSc S scope) n tg1) mt mt1 (ev c (blkSc S scope) n elt) := by
  obtain ⟨ok, pl, sl, hi, hg, ht, hE⟩ := lcOk I g e eN (elt := elt) h hm
  obtain ⟨_, pl1, sl1, _, hg1, ht1, _⟩ := lcOk I g e eN (elt := elt) h1 hm1
  have gb := g.blk ok.kind
  exact ⟨hi, ok, sl, sl1, hg, ht, fun s H Ca cl fp C' a1 a2 => I.i (gb s H Ca cl fp) a1 a2 tg1 iter1, hg1, ht1, hE, pl, pl1⟩
theorem evScL_some {scope : Scope} {asy : Int} {iter : Expr} {sl : List Nat} {mi : ML} {mg : MG} {mt : Option (Option MT)} {me : MV} {env : Env} {r : List D × Env} (h : evScL c S scope asy iter sl mi mg mt me env = some r) :
    asy = 0 ∧ lcChk c S scope iter sl = true ∧ ∃ mt', mt = some mt' ∧ evScL c S scope asy iter sl mi mg mt me = mScL (blkCap c scope) ((blkOwn c scope).map (·.2)) mi mg (mIfs mt') me := by
  unfold evScL at h ⊢
  split at h
  · rename_i h0
    split at h
    · rename_i h1
      cases mt with
      | none => cases h
      | some mt => exact ⟨h0, h1, mt, rfl, by rw [if_pos h0, if_pos h1]⟩
    · cases h
  · cases h
theorem pscDo {e : Expr} {m : ML} (h : (∃ env r, m env = some r) → PE X e (tSet X.prog X.w C m)) : PE X e (tSet X.prog X.w C m) :=
  ⟨fun pins s σ H Q I q => by
    obtain ⟨env, G, ys, env', ks, hs, hm, hq⟩ := id q
    exact (h ⟨env, _, hm⟩).run pins s σ H Q I q⟩
theorem sndSc {n : Nat} (I : Snd c n) {S : Sc} {k : Nat} {X : Cx} {C : Cn} (g : Good c S k X) (e : C.K = X.K) (eN : C.N = X.N) (x : Expr) : PE X x (tSet X.prog X.w C (evSc c S (n + 1) x)) := by
  refine pscDo fun ⟨env, r, hr⟩ => ?_
  cases x with
  | SetComp elt gens scope p =>
    cases gens with
    | nil => cases hr
    | cons g1 gens =>
      obtain ⟨tg, iter, ifs, asy⟩ := g1
      cases gens with
      | cons _ _ => cases hr
      | nil =>
        obtain ⟨h0, hc, mt, hm, he⟩ := evScL_some hr
        subst h0
        obtain ⟨ok, pl, sl, hi, hg, ht, hE⟩ := lcOk I g e eN (elt := elt) hc hm
        have q := peSc (pos := p) (js := blkCap c scope) e eN g.calm (by rw [g.N]; exact g.nd) hi ok sl hg ht hE pl
        rw [← he] at q
        exact q
  | Call f args kws p =>
    cases f with
    | Name x px =>
      cases args with
      | nil => cases hr
      | cons a as =>
        cases as with
        | cons _ _ => cases hr
        | nil =>
          cases kws with
          | cons _ _ => cases hr
          | nil =>
            show PE X _ (tSet X.prog X.w C (if x = "set" ∧ isGlob S.sc x = true ∧ plainE a = true then mSetL (ev c S n a) else fun _ => none))
            split
            · rename_i h
              obtain ⟨rfl, h2, h3⟩ := h
              exact peSetC e g.calm (g.gl' h2) (g.bi _ (by decide)) (I.e g e eN a) h3
            · exact pscNone
    | _ => cases hr
  | _ => cases hr
theorem sndE {n : Nat} (I : Snd c n) {S : Sc} {k : Nat} {X : Cx} {C : Cn} (g : Good c S k X) (e : C.K = X.K) (eN : C.N = X.N) (x : Expr) : PE X x (tE C (ev c S (n + 1) x)) := by
  have go := fun y => I.e g e eN y
  have gos := fun ys => I.es g e eN ys
  have gt := fun y => I.t g e eN y
  refine peDo fun ⟨env, r, hr⟩ => ?_
  cases x with
  | Constant v j p =>
    cases v with
    | int i => exact peConst rfl
    | bool i => exact peConst rfl
    | none => exact peConst rfl
    | str i => exact peConst rfl
    | _ => cases hr
  | Name x p =>
    simp only [ev] at hr ⊢
    split at hr
    · rename_i hok
      obtain ⟨hd, hcd⟩ := okName_of hok
      rw [if_pos hok]
      split at hr
      · rename_i hv
        rw [if_pos hv]
        cases hi : ixOf x c.N with
        | none => rw [hi] at hr; cases hr
        | some i => exact peVar (by rw [g.N]; exact ixOf_get hi) (by rw [g.sc]; exact vis_of hv) hd hcd
      · rename_i hv
        rw [if_neg hv]
        split at hr
        · rename_i hg
          rw [if_pos hg]
          cases hd' : c.gl x with
          | none => rw [hd'] at hr; cases hr
          | some d =>
            obtain ⟨u, v, h1, h2, h3⟩ := g.gl x d hd'
            exact peGlob (g.gl' hg) h1 h2 (by rw [e]; exact h3) hd
        · cases hr
    · cases hr
  | BinOp a op b p => exact peBin e (go a) (go b)
  | UnaryOp op a p =>
    cases op with
    | USub => exact peNeg (go a)
    | Not => exact peNot e (go a)
    | _ => cases hr
  | BoolOp op es p =>
    cases op with
    | And =>
      cases es with
      | nil => cases hr
      | cons a as => exact peAnd (by simp) (.cons (go a) (gos as))
    | Or =>
      cases es with
      | nil => cases hr
      | cons a as => exact peOr (by simp) (.cons (go a) (gos as))
  | Compare a ops bs p =>
    cases ops with
    | nil => cases hr
    | cons op ops =>
      cases ops with
      | nil =>
        cases bs with
        | nil => cases hr
        | cons b bs =>
          cases bs with
          | cons _ _ => cases hr
          | nil =>
            have hr' : (if plainE b = true then ev2 (ev c S n a) (ev c S n b) (dCmpR op) else mNone) env = some r := hr
            show PE X _ (tE C (if plainE b = true then ev2 (ev c S n a) (ev c S n b) (dCmpR op) else mNone))
            split at hr'
            · rename_i hp
              rw [if_pos hp]
              exact peCmp e g.low g.u65 (go a) (go b) hp
            · cases hr'
      | cons op' ops =>
        cases ops with
        | cons _ _ => cases hr
        | nil =>
          cases bs with
          | nil => cases hr
          | cons b bs =>
            cases bs with
            | nil => cases hr
            | cons d bs =>
              cases bs with
              | cons _ _ => cases hr
              | nil =>
                have hr' : (if plainE d = true then mChain op op' (ev c S n a) (ev c S n b) (ev c S n d) else mNone) env = some r := hr
                show PE X _ (tE C (if plainE d = true then mChain op op' (ev c S n a) (ev c S n b) (ev c S n d) else mNone))
                split at hr'
                · rename_i hp
                  rw [if_pos hp]
                  exact peChain e g.low g.u65 (go a) (go b) (go d) hp
                · cases hr'
  | IfExp t a b p => exact peIf (gt t) (go a) (go b)
  | Tuple es kk p =>
    have hr' : (if es.all plainE = true then mTup (lS (evs c S n es)) else mNone) env = some r := hr
    show PE X _ (tE C (if es.all plainE = true then mTup (lS (evs c S n es)) else mNone))
    split at hr'
    · rename_i hp
      rw [if_pos hp]
      exact peTup (paS hp (gos es))
    · cases hr'
  | List es p =>
    have hr' : (if es.all plainE = true then mLst (lS (evs c S n es)) else mNone) env = some r := hr
    show PE X _ (tE C (if es.all plainE = true then mLst (lS (evs c S n es)) else mNone))
    split at hr'
    · rename_i hp
      rw [if_pos hp]
      exact peLst (paS hp (gos es))
    · cases hr'
  | Dict ks vs p =>
    cases ks with
    | cons _ _ => cases hr
    | nil =>
      cases vs with
      | cons _ _ => cases hr
      | nil => exact peDct0
  | Subscript a b p => exact sndSub g e go hr
  | Call f args kws p => exact sndCall g e go gos (fun y => I.sc g e eN y) hr
  | ListComp elt gens scope p =>
    cases gens with
    | nil => cases hr
    | cons g1 gens =>
      obtain ⟨tg, iter, ifs, asy⟩ := g1
      cases gens with
      | cons g2 gens =>
        obtain ⟨tg1, iter1, ifs1, asy1⟩ := g2
        cases gens with
        | cons _ _ => cases hr
        | nil =>
          obtain ⟨h0, h1, hc, hc1, mt, mt1, hm, hm1, he⟩ := evLc2_some hr
          subst h0 h1
          have q := peLc2 (pos := p) (js := blkCap c scope) e eN g.calm (by rw [g.N]; exact g.nd) (lc2Ok I g e eN (elt := elt) hc hc1 hm hm1)
          rw [← he] at q
          exact q
      | nil =>
        obtain ⟨h0, hc, mt, hm, he⟩ := evLc_some hr
        subst h0
        obtain ⟨ok, pl, sl, hi, hg, ht, hE⟩ := lcOk I g e eN (elt := elt) hc hm
        have q := peLc (pos := p) (js := blkCap c scope) e eN g.calm (by rw [g.N]; exact g.nd) hi ok sl hg ht hE pl
        rw [← he] at q
        exact q
  | _ => cases hr
theorem ptDo {e : Expr} {m : MT} (h : (∃ env r, m env = some r) → PT X e (tT C m)) : PT X e (tT C m) :=
  ⟨fun pins s σ H Q I q => by
    obtain ⟨env, G, b, env', hs, hm, hq⟩ := id q
    exact (h ⟨env, _, hm⟩).run pins s σ H Q I q⟩
theorem sndTv {n : Nat} (I : Snd c n) {S : Sc} {k : Nat} {X : Cx} {C : Cn} (g : Good c S k X) (e : C.K = X.K) (eN : C.N = X.N) (x : Expr) : PT X x (tT C (if valE x = true then mTru (ev c S n x) else fun _ => none)) := by
  split
  · rename_i h
    exact ptVal e (I.e g e eN x) h
  · exact ptNone
theorem sndT {n : Nat} (I : Snd c n) {S : Sc} {k : Nat} {X : Cx} {C : Cn} (g : Good c S k X) (e : C.K = X.K) (eN : C.N = X.N) (x : Expr) : PT X x (tT C (evT c S (n + 1) x)) := by
  have go := fun y => I.e g e eN y
  have gt := fun y => I.t g e eN y
  have gts := fun ys => I.ts g e eN ys
  refine ptDo fun ⟨env, r, hr⟩ => ?_
  cases x with
  | UnaryOp op a p =>
    cases op with
    | Not => exact ptNot (gt a)
    | _ => exact sndTv I g e eN _
  | BoolOp op es p =>
    cases op with
    | And =>
      cases es with
      | nil => cases hr
      | cons a as => exact (pwAnd (by simp) (.cons (gt a) (gts as))).pt
    | Or =>
      cases es with
      | nil => cases hr
      | cons a as => exact (pwOr (by simp) (.cons (gt a) (gts as))).pt
  | Compare a ops bs p =>
    cases ops with
    | nil => cases hr
    | cons op ops =>
      cases ops with
      | nil =>
        cases bs with
        | nil => cases hr
        | cons b bs =>
          cases bs with
          | cons _ _ => cases hr
          | nil =>
            have hr' : (if plainE b = true then mBool (ev2 (ev c S n a) (ev c S n b) (dCmpR op)) else fun _ => none) env = some r := hr
            show PT X _ (tT C (if plainE b = true then mBool (ev2 (ev c S n a) (ev c S n b) (dCmpR op)) else fun _ => none))
            split at hr'
            · rename_i hp
              rw [if_pos hp]
              exact ptCmp e g.low g.u65 (go a) (go b) hp
            · cases hr'
      | cons op' ops =>
        cases ops with
        | cons _ _ => cases hr
        | nil =>
          cases bs with
          | nil => cases hr
          | cons b bs =>
            cases bs with
            | nil => cases hr
            | cons d bs =>
              cases bs with
              | cons _ _ => cases hr
              | nil =>
                have hr' : (if plainE d = true then mBool (mChain op op' (ev c S n a) (ev c S n b) (ev c S n d)) else fun _ => none) env = some r := hr
                show PT X _ (tT C (if plainE d = true then mBool (mChain op op' (ev c S n a) (ev c S n b) (ev c S n d)) else fun _ => none))
                split at hr'
                · rename_i hp
                  rw [if_pos hp]
                  exact ptChain e g.low g.u65 (go a) (go b) (go d) hp
                · cases hr'
  | _ => exact sndTv I g e eN _
theorem call1_of {e : Expr} {x : Str} {a : Expr} (h : call1 e = some (x, a)) : ∃ p pos, e = .Call (.Name x p) [a] [] pos := by
  unfold call1 at h
  split at h
  · cases h; exact ⟨_, _, rfl⟩
  · cases h
theorem call2_of {e : Expr} {x : Str} {a b : Expr} (h : call2 e = some (x, a, b)) : ∃ p pos, e = .Call (.Name x p) [a, b] [] pos := by
  unfold call2 at h
  split at h
  · cases h; exact ⟨_, _, rfl⟩
  · cases h
theorem sndIt {f : Expr → MV} (g : Good c S k X) (e : C.K = X.K) (go : ∀ y, PE X y (tE C (f y))) (tg y : Expr) : PI X tg y (tI C (evIt S f tg y)) := by
  unfold evIt
  cases hc2 : call2 y with
  | some q =>
    obtain ⟨x, a, b⟩ := q
    obtain ⟨p, pos, rfl⟩ := call2_of hc2
    dsimp only
    split
    · rename_i hx
      subst hx
      split
      · rename_i h
        obtain ⟨h1, h2, h3, h4⟩ := h
        cases tg with
        | Tuple es kk p => exact piZip e (g.gl' h1) (g.bi _ (by decide)) (paS (by simp [h2, h3]) (.cons (go a) (.cons (go b) .nil))) h2 h3
        | _ => cases h4
      · exact piNone
    · exact piVal e (go _)
  | none =>
  dsimp only
  cases hc : call1 y with
  | none => exact piVal e (go y)
  | some q =>
    obtain ⟨x, a⟩ := q
    obtain ⟨p, pos, rfl⟩ := call1_of hc
    dsimp only
    split
    · rename_i hx
      subst hx
      split
      · rename_i h
        exact piRange (g.gl' h.1) (g.bi _ (by decide)) (paS (by simp [h.2]) (.cons (go a) .nil)) h.2
      · exact piNone
    · split
      · rename_i hx
        subst hx
        split
        · rename_i h
          obtain ⟨h1, h2, h3⟩ := h
          cases tg with
          | Tuple es kk p => exact piEnum e (g.gl' h1) (g.bi _ (by decide)) (paS (by simp [h2]) (.cons (go a) .nil)) h2
          | _ => cases h3
        · exact piNone
      · exact piVal e (go _)
end
theorem snd_step {c : Ct} {n : Nat} (I : Snd c n) : Snd c (n + 1) where
  e := fun g e eN x => sndE I g e eN x
  es := fun g e eN xs => by
    cases xs with
    | nil => exact .nil
    | cons x xs => exact .cons (I.e g e eN x) (I.es g e eN xs)
  t := fun g e eN x => sndT I g e eN x
  ts := fun g e eN xs => by
    cases xs with
    | nil => exact .nil
    | cons x xs => exact .cons (I.t g e eN x) (I.ts g e eN xs)
  i := fun g e eN tg x => sndIt g e (fun y => I.e g e eN y) tg x
  sc := fun g e eN x => sndSc I g e eN x
theorem snd (c : Ct) : ∀ n, Snd c n
  | 0 => snd0 c
  | n + 1 => snd_step (snd c n)
end HC
set_option Elab.async false
set_option linter.all false
set_option maxRecDepth 100000
set_option maxHeartbeats 1000000
set_option autoImplicit false
/-! HC, part M: statements: the interpreter, and that it is sound. -/
namespace HC
open PySem PySem.Spec PyProof.Rows L2
def sNone : MS := fun _ => none
def whN : Nat := 100000
def mDrop (m : MV) : MS := fun env => match m env with
  | some (_, _, e) => some (.nx e)
  | none => none
def exName (c : Ct) (S : Sc) (x : Str) (m : MV) : MS := match ixOf x c.N with
  | some i => if isLoc S.sc x = true ∧ okFn S x = true then mSet i m else sNone
  | none => sNone
def isSc : Expr → Bool
  | .SetComp _ _ _ _ => true
  | .DictComp _ _ _ _ _ => true
  | _ => false
/-- x, y = (a, b), of plain local names: stored from the right -/
def parOk (S : Sc) (x y : Str) (px py : Pos) (a b : Expr) : Bool :=
  (S.sc.names.lookup x == some .local) && ((S.sc.names.lookup y == some .local) && ((py.line == px.line) && (!(x == y) && (plainE a && (plainE b && (!([a, b].all (foldedForSure 8)) && !([a, b].all (constantsAlone 8))))))))
def mPar2 (i j : Nat) (m : ML) : MS := fun env => match m env with
  | some ([d1, d2], e) => some (.nx ((e.set i (some ⟨d1, false⟩)).set j (some ⟨d2, false⟩)))
  | _ => none
def exPar (c : Ct) (S : Sc) (f : Expr → MV) (tg e : Expr) : MS := match tg, e with
  | .Tuple [.Name x px, .Name y py] _ _, .Tuple [a, b] _ _ => if parOk S x y px py a b = true then (match ixOf x c.N, ixOf y c.N with
    | some i, some j => if i = j then sNone else mPar2 i j (lS [f a, f b])
    | _, _ => sNone) else sNone
  | _, _ => sNone
def exAsg (c : Ct) (S : Sc) (f : Expr → MV) (mg : MG) (tg e : Expr) : MS := match tg with
  | .Name x _ => if isSc e = true then sNone else exName c S x (f e)
  | .Tuple _ _ _ => if notTup e = true then mAsg (f e) mg else exPar c S f tg e
  | .Subscript (.Name x _) ie _ => if okName x = true ∧ isVis S.sc x = true ∧ notSl ie = true then (match ixOf x c.N with
    | some i => mSetI i (f ie) (f e)
    | none => sNone) else sNone
  | _ => sNone
def exAug (c : Ct) (S : Sc) (f : Expr → MV) (tg e : Expr) (op : Operator) : MS := match tg with
  | .Name x _ => if okName x = true ∧ isLoc S.sc x = true ∧ okFn S x = true then (match ixOf x c.N with
    | some i => mAug i op (f e)
    | none => sNone) else sNone
  | _ => sNone
/-- x.m(..), of an own list -/
def methOf : Expr → Option (Str × Mt × List Expr)
  | .Call (.Attribute (.Name x _) m apos) args [] cpos => if (apos.endLine == cpos.line) = true then (mtOf m).map fun t => (x, t, args) else none
  | _ => none
def exMt (c : Ct) (S : Sc) (fs : List Expr → List MV) (x : Str) (t : Mt) (args : List Expr) : MS :=
  if okName x = true ∧ isVis S.sc x = true ∧ args.all plainE = true ∧ args.length < 30 then (match ixOf x c.N with
    | some i => mMeth i t (lS (fs args))
    | none => sNone) else sNone
def exX (c : Ct) (S : Sc) (f : Expr → MV) (fs : List Expr → List MV) (e : Expr) : MS := match methOf e with
  | some (x, t, args) => exMt c S fs x t args
  | none => if isLc e = true then sNone else mDrop (f e)
mutual
def ex (c : Ct) (S : Sc) : Nat → Stmt → MS
  | 0, _ => sNone
  | n + 1, st => match st with
    | .Pass _ => mSkip
    | .If t a b _ => mIfS (evT c S n t) (exs c S n a) (exs c S n b)
    | .Return (some e) _ => mRet (ev c S n e)
    | .Assign [tg] e _ => exAsg c S (fun y => ev c S n y) (evG c S n tg) tg e
    | .AugAssign tg op e _ => exAug c S (fun y => ev c S n y) tg e op
    | .For tg it body [] _ => if plainE it = true then mFor (evI c S n tg it) (evG c S n tg) (exs c S n body) else sNone
    | .While t body [] _ => whLoop (evT c S n t) (exs c S n body) whN
    | .Expr e _ => exX c S (fun y => ev c S n y) (fun ys => evs c S n ys) e
    | _ => sNone
def exs (c : Ct) (S : Sc) : Nat → List Stmt → MS
  | 0, _ => sNone
  | _, [] => mSkip
  | n + 1, s :: ss => mSeq (ex c S n s) (exs c S n ss)
end
section
variable {c : Ct} {S : Sc} {k : Nat} {X : Cx} {C : Cn}
theorem psNone {st : Stmt} : PS X st (tS C sNone) := ⟨fun _ _ _ _ _ _ h => by obtain ⟨_, _, _, _, h, _⟩ := h; cases h⟩
theorem pssNone {st : List Stmt} : PSs X st (tS C sNone) := ⟨fun _ _ _ _ _ _ h => by obtain ⟨_, _, _, _, h, _⟩ := h; cases h⟩
theorem psDo {e : Stmt} {m : MS} (h : (∃ env r, m env = some r) → PS X e (tS C m)) : PS X e (tS C m) :=
  ⟨fun pins s σ H Q I q => by
    obtain ⟨env, G, fl, hs, hm, hq⟩ := id q
    exact (h ⟨env, _, hm⟩).run pins s σ H Q I q⟩
theorem psDrop {e : Expr} {m : MV} {pos : Pos} (he : PE X e (tE C m)) (hl : isLc e = false) : PS X (.Expr e pos) (tS C (mDrop m)) := by
  refine psImp (ps_expr he (swaps_no hl _ _ _)) fun Dn σ H q => ?_
  obtain ⟨env, G, fl, hs, hm, hq⟩ := q
  unfold mDrop at hm
  split at hm
  · rename_i d k e1 h1
    cases hm
    exact ⟨env, G, d, k, e1, hs, h1, fun v H' G' hh hg s1 hv => hq σ H' G' hg s1⟩
  · cases hm
theorem sndName (g : Good c S k X) {x : Str} {e : Expr} {m : MV} {pos pos' : Pos} (he : PE X e (tE C m)) (hl : isLc e = false) : PS X (.Assign [.Name x pos'] e pos) (tS C (exName c S x m)) := by
  unfold exName
  cases hi : ixOf x c.N with
  | none => exact psNone
  | some i =>
    dsimp only
    split
    · rename_i h
      exact psSet (by rw [g.N]; exact g.nd) (by rw [g.N]; exact ixOf_get hi) (by rw [g.sc]; exact loc_of h.1) (by rw [g.fn, g.sc]; exact okFn_of h.2) he hl
    · exact psNone
theorem sndNameLc {n : Nat} (g : Good c S k X) (e : C.K = X.K) (eN : C.N = X.N) {x : Str} {y : Expr} {pos pos' : Pos} (hl : isLc y = true) (hs : isSc y = false) : PS X (.Assign [.Name x pos'] y pos) (tS C (exName c S x (ev c S n y))) := by
  refine psDo fun ⟨env, r, hr⟩ => ?_
  unfold exName at hr ⊢
  cases hi : ixOf x c.N with
  | none => exact psNone
  | some i =>
    rw [hi] at hr
    dsimp only at hr ⊢
    split
    · rename_i h
      rw [if_pos h] at hr
      cases n with
      | zero => cases hr
      | succ n =>
        cases y with
        | ListComp elt gens scope p =>
          have hm0 : ∃ r, ev c S (n + 1) (.ListComp elt gens scope p) env = some r := by
            unfold mSet at hr
            split at hr
            · exact ⟨_, by assumption⟩
            · cases hr
          obtain ⟨r0, hr0⟩ := hm0
          cases gens with
          | nil => cases hr0
          | cons g1 gens =>
            obtain ⟨tg, iter, ifs, asy⟩ := g1
            cases gens with
            | cons g2 gens =>
              obtain ⟨tg1, iter1, ifs1, asy1⟩ := g2
              cases gens with
              | cons _ _ => cases hr0
              | nil =>
                obtain ⟨h0, h01, hc, hc1, mt, mt1, hm, hm1, he⟩ := evLc2_some hr0
                subst h0 h01
                have q := psSetLc2 (i := i) (y := x) (py := pos') (spos := pos) (pos := p) (js := blkCap c scope) e eN g.calm (by rw [g.N]; exact g.nd) (lc2Ok (snd c n) g e eN (elt := elt) hc hc1 hm hm1) (by rw [g.N]; exact ixOf_get hi) (by rw [g.sc]; exact loc_of h.1) (by rw [g.fn, g.sc]; exact okFn_of h.2) (by rw [g.sc]; exact g.kd)
                rw [← he] at q
                exact q
            | nil =>
              obtain ⟨h0, hc, mt, hm, he⟩ := evLc_some hr0
              subst h0
              obtain ⟨ok, pl, sl, hi', hg, ht, hE⟩ := lcOk (snd c n) g e eN (elt := elt) hc hm
              have q := psSetLc (i := i) (y := x) (py := pos') (spos := pos) (pos := p) (js := blkCap c scope) e eN g.calm (by rw [g.N]; exact g.nd) hi' ok sl hg ht hE pl (by rw [g.N]; exact ixOf_get hi) (by rw [g.sc]; exact loc_of h.1) (by rw [g.fn, g.sc]; exact okFn_of h.2) (by rw [g.sc]; exact g.kd)
              rw [← he] at q
              exact q
        | SetComp _ _ _ _ => cases hs
        | DictComp _ _ _ _ _ => cases hs
        | _ => cases hl
    · exact psNone
theorem mtOf_name {m : Str} {t : Mt} (h : mtOf m = some t) : m = mtName t := by
  unfold mtOf at h
  repeat (split at h; · rename_i e; cases h; exact e)
  cases h
theorem methOf_of {e : Expr} {x : Str} {t : Mt} {args : List Expr} (h : methOf e = some (x, t, args)) : ∃ p apos cpos, e = .Call (.Attribute (.Name x p) (mtName t) apos) args [] cpos ∧ (apos.endLine == cpos.line) = true := by
  unfold methOf at h
  split at h
  · split at h
    · rename_i hl
      cases ht : mtOf ‹_› with
      | none => rw [ht] at h; cases h
      | some t' =>
        rw [ht] at h
        cases h
        have := mtOf_name ht
        subst this
        exact ⟨_, _, _, rfl, hl⟩
    · cases h
  · cases h
theorem sndMt {n : Nat} (g : Good c S k X) (e : C.K = X.K) (eN : C.N = X.N) {x : Str} {t : Mt} {args : List Expr} {p apos cpos pos : Pos} (hl : (apos.endLine == cpos.line) = true) :
    PS X (.Expr (.Call (.Attribute (.Name x p) (mtName t) apos) args [] cpos) pos) (tS C (exMt c S (fun ys => evs c S n ys) x t args)) := by
  refine psDo fun ⟨env, r, hr⟩ => ?_
  unfold exMt at hr ⊢
  split
  · rename_i h
    rw [if_pos h] at hr
    obtain ⟨hok, hv, hp, hlen⟩ := h
    obtain ⟨hd, hcd⟩ := okName_of hok
    cases hi : ixOf x c.N with
    | none => exact psNone
    | some i =>
      rw [hi] at hr
      dsimp only at hr ⊢
      have h1 : X.N[i]? = some x := by rw [g.N]; exact ixOf_get hi
      have h2 : Vis X.env.scope x := by rw [g.sc]; exact vis_of hv
      have hE := (snd c n).es g e eN args
      cases args with
      | nil =>
        have : evs c S n [] = [] := by cases n <;> rfl
        rw [this]
        exact psMeth0 e h1 h2 hd hcd hl
      | cons a as => exact psMeth1 e h1 h2 hd hcd hp hE hl hlen
  · exact psNone
theorem sndX {n : Nat} (g : Good c S k X) (e : C.K = X.K) (eN : C.N = X.N) {y : Expr} {pos : Pos} : PS X (.Expr y pos) (tS C (exX c S (fun y => ev c S n y) (fun ys => evs c S n ys) y)) := by
  unfold exX
  cases h : methOf y with
  | some q =>
    obtain ⟨x, t, args⟩ := q
    obtain ⟨p, apos, cpos, rfl, hl⟩ := methOf_of h
    exact sndMt g e eN hl
  | none =>
    dsimp only
    split
    · exact psNone
    · rename_i hl
      exact psDrop ((snd c n).e g e eN y) (by simpa using hl)
theorem any2 {a b : Expr} (f : Expr → Bool) (h1 : f a = false) (h2 : f b = false) : [a, b].any f = false := by simp [h1, h2]
theorem swapped_yes {x y : Str} {px py pt pt2 : Pos} {kt k2} {a b : Expr} {env : PySem.Env} (hk : env.scope.kind = .function) (hx : env.scope.names.lookup x = some .local) (hy : env.scope.names.lookup y = some .local) (hl : py.line = px.line) (hn : (x == y) = false) (ha : plainE a = true) (hb : plainE b = true)
    (h1 : [a, b].all (foldedForSure 8) = false) (h2 : [a, b].all (constantsAlone 8) = false) : swappedStores [.Tuple [.Name x px, .Name y py] kt pt] (.Tuple [a, b] k2 pt2) env = pure (some [x, y]) := by
  have hbk : env.blockKind = .function := by unfold Env.blockKind; rw [hk]; rfl
  have kx : env.kindOf x = some .local := hx
  have ky : env.kindOf y = some .local := hy
  have n2 : (y == x) = false := by
    cases q : (y == x) with
    | false => rfl
    | true => rw [eq_of_beq q, beq_self_eq_true] at hn; cases hn
  have q2 : ([x, y] : List Str).eraseDups = [x, y] := by
    simp [List.eraseDups_cons, n2]
  unfold swappedStores
  simp only [hbk, pure_bind, bind_pure_comp]
  rw [any2]
  · have e0 : (Option.map (fun x : Expr => x.pos.line) [Expr.Name x px, Expr.Name y py].head?).getD 0 = px.line := rfl
    simp only [e0, List.filterMap_cons, List.filterMap_nil, kx, ky, hl, beq_self_eq_true, Bool.and_self, if_true, q2, h1, h2]
    rfl
  · cases a <;> first | rfl | (cases ha; done)
  · cases b <;> first | rfl | (cases hb; done)
theorem psPar2 {i j : Nat} {x y : Str} {a b : Expr} {ma mb : MV} {px py pt pt2 pos : Pos} {kt k2} (hc : X.calm = true) (hN : X.N.Nodup) (hi : X.N[i]? = some x) (hj : X.N[j]? = some y) (hij : i ≠ j) (hx : X.env.scope.names.lookup x = some .local) (hy : X.env.scope.names.lookup y = some .local)
    (ha : PE X a (tE C ma)) (hb : PE X b (tE C mb)) (hp : [a, b].all plainE = true) (hw : swappedStores [.Tuple [.Name x px, .Name y py] kt pt] (.Tuple [a, b] k2 pt2) X.env = pure (some [x, y])) :
    PS X (.Assign [.Tuple [.Name x px, .Name y py] kt pt] (.Tuple [a, b] k2 pt2) pos) (tS C (mPar2 i j (lS [ma, mb]))) := by
  refine psImp (ps_par hc hN hi hj hij hx hy (paS hp (.cons ha (.cons hb .nil))) hw rfl) fun Dn σ H q => ?_
  obtain ⟨env, G, fl, hs, hm, hq⟩ := q
  unfold mPar2 at hm
  split at hm
  · rename_i d1 d2 e1 h1
    cases hm
    refine ⟨env, G, [d1, d2], e1, hs, h1, fun vs H' G' hh hg s1 rs => ?_⟩
    cases rs with
    | cons r1 rs =>
      cases rs with
      | cons r2 rs =>
        cases rs
        exact ⟨_, _, rfl, hq _ H' G' hg ((s1.setS r1).setS r2)⟩
  · cases hm
theorem sndPar {n : Nat} (g : Good c S k X) (e : C.K = X.K) (eN : C.N = X.N) {tg y : Expr} {pos : Pos} : PS X (.Assign [tg] y pos) (tS C (exPar c S (fun y => ev c S n y) tg y)) := by
  unfold exPar
  split
  · split
    · rename_i h
      unfold parOk at h
      simp only [Bool.and_eq_true, Bool.not_eq_true', beq_iff_eq] at h
      obtain ⟨hx, hy, hl, hn, pa, pb, f1, f2⟩ := h
      split
      · rename_i i j h1 h2
        split
        · exact psNone
        · rename_i hij
          have hx' := hx
          have hy' := hy
          rw [← g.sc] at hx' hy'
          exact psPar2 g.calm (by rw [g.N]; exact g.nd) (by rw [g.N]; exact ixOf_get h1) (by rw [g.N]; exact ixOf_get h2) hij hx' hy' ((snd c n).e g e eN _) ((snd c n).e g e eN _) (by simp [pa, pb])
            (swapped_yes (by rw [g.sc]; exact g.kd) hx' hy' hl hn pa pb f1 f2)
      · exact psNone
    · exact psNone
  · exact psNone
theorem sndAsg {n : Nat} (g : Good c S k X) (e : C.K = X.K) (eN : C.N = X.N) {tg y : Expr} {pos : Pos} : PS X (.Assign [tg] y pos) (tS C (exAsg c S (fun y => ev c S n y) (evG c S n tg) tg y)) := by
  unfold exAsg
  split
  · split
    · exact psNone
    · rename_i hs
      cases hl : isLc y with
      | true => exact sndNameLc g e eN hl (by simpa using hs)
      | false => exact sndName g ((snd c n).e g e eN y) hl
  · split
    · rename_i hn
      exact psTup ((snd c n).e g e eN y) (snd_G g e n _) hn
    · exact sndPar g e eN
  · split
    · rename_i h
      obtain ⟨hok, hv, hn⟩ := h
      obtain ⟨hd, hcd⟩ := okName_of hok
      split
      · rename_i i hi
        exact psSetI (by rw [g.N]; exact ixOf_get hi) (by rw [g.sc]; exact vis_of hv) hd hcd ((snd c n).e g e eN _) ((snd c n).e g e eN y) hn
      · exact psNone
    · exact psNone
  · exact psNone
theorem sndAug {n : Nat} (g : Good c S k X) (e : C.K = X.K) (eN : C.N = X.N) {tg y : Expr} {op : Operator} {pos : Pos} : PS X (.AugAssign tg op y pos) (tS C (exAug c S (fun y => ev c S n y) tg y op)) := by
  unfold exAug
  split
  · split
    · rename_i h
      obtain ⟨hok, hx, hf⟩ := h
      obtain ⟨hd, hcd⟩ := okName_of hok
      split
      · rename_i i hi
        exact psAug e (by rw [g.N]; exact g.nd) (by rw [g.N]; exact ixOf_get hi) (by rw [g.sc]; exact loc_of hx) (by rw [g.fn, g.sc]; exact okFn_of hf) ((snd c n).e g e eN y) hd
      · exact psNone
    · exact psNone
  · exact psNone
end
structure SndS (c : Ct) (n : Nat) : Prop where
  s : ∀ {S k X C}, Good c S k X → C.K = X.K → C.N = X.N → ∀ x, PS X x (tS C (ex c S n x))
  ss : ∀ {S k X C}, Good c S k X → C.K = X.K → C.N = X.N → ∀ x, PSs X x (tS C (exs c S n x))
theorem sndS0 (c : Ct) : SndS c 0 := ⟨fun _ _ _ _ => psNone, fun _ _ _ x => by cases x <;> exact pssNone⟩
theorem sndS_s {c : Ct} {n : Nat} (I : SndS c n) {S : Sc} {k : Nat} {X : Cx} {C : Cn} (g : Good c S k X) (e : C.K = X.K) (eN : C.N = X.N) (x : Stmt) : PS X x (tS C (ex c S (n + 1) x)) := by
  cases x with
  | Pass p => exact psPass
  | If t a b p => exact psIf ((snd c n).t g e eN t) (I.ss g e eN a) (I.ss g e eN b)
  | Return v p =>
    cases v with
    | none => exact psNone
    | some y => exact psRet ((snd c n).e g e eN y)
  | Assign tgs y p =>
    cases tgs with
    | nil => exact psNone
    | cons tg tgs =>
      cases tgs with
      | cons _ _ => exact psNone
      | nil => exact sndAsg g e eN
  | AugAssign tg op y p => exact sndAug g e eN
  | For tg it body els p =>
    cases els with
    | cons _ _ => exact psNone
    | nil =>
      show PS X _ (tS C (if plainE it = true then mFor (evI c S n tg it) (evG c S n tg) (exs c S n body) else sNone))
      split
      · rename_i hp
        exact psFor g.hp g.calm ((snd c n).i g e eN tg it) (snd_G g e n tg) (I.ss g e eN body) hp
      · exact psNone
  | While t body els p =>
    cases els with
    | cons _ _ => exact psNone
    | nil => exact psWhile g.hp ((snd c n).t g e eN t) (I.ss g e eN body)
  | Expr y p => exact sndX g e eN
  | _ => exact psNone
theorem sndS (c : Ct) : ∀ n, SndS c n
  | 0 => sndS0 c
  | n + 1 =>
    { s := fun g e eN x => sndS_s (sndS c n) g e eN x
      ss := fun g e eN x => by
        cases x with
        | nil => exact pssNil
        | cons s ss => exact pssCons ((sndS c n).s g e eN s) ((sndS c n).ss g e eN ss) }
/-! ### defs -/
/-- what a def is, for the interpreter -/
structure Df where
  N : List Str
  ps : List Str
  sc : Scope
  body : List Stmt
  sh : List Shape
def shT (tab : Str → Option Df) (x : Str) : List Shape := match tab x with
  | some i => i.sh
  | none => []
def envOf (N : List Str) (ds : List D) : Env := ds.map (fun d => some ⟨d, false⟩) ++ List.replicate (N.length - ds.length) none
def fOut : Option Fl → Option (D × Bool)
  | some (.rt d fr) => some (d, fr)
  | some (.nx _) => some (.none, false)
  | _ => none
/-- a def's body at its arguments -/
def runD (gl : Str → Option D) (cf : Str → List D → Option (D × Bool)) (sh : Str → List Shape) (n : Nat) (i : Df) (ds : List D) : Option (D × Bool) :=
  if ds.length = i.ps.length then fOut (exs ⟨i.N, gl, cf, sh⟩ ⟨i.sc, fun _ => true⟩ n i.body (envOf i.N ds)) else none
def callN (gl : Str → Option D) (tab : Str → Option Df) (n : Nat) : Nat → Str → List D → Option (D × Bool)
  | 0, _, _ => none
  | k + 1, x, ds => match tab x with
    | some i => runD gl (callN gl tab n k) (shT tab) n i ds
    | none => none
end HC
set_option Elab.async false
set_option linter.all false
set_option maxRecDepth 100000
set_option maxHeartbeats 1000000
set_option autoImplicit false
/-! HC, part N: the table of defs; a law's end. -/
namespace HC
open PySem PySem.Spec PyProof.Rows L2
structure TabOk (K : PySem.W.Frag) (mg : Str → Option Value) (gl : Str → Option D) (tab : Str → Option Df) : Prop where
  sys : ∃ o, K.lookup sysModules = some o
  bi : ∀ x ∈ biNames, mg x = none
  gls : ∀ x d, gl x = some d → ∃ u v, mg x = some u ∧ RelV v u ∧ ∀ G, Rp K G v d
  fns : ∀ x i, tab x = some i → ∃ f fd qual params kws, FunD K x qual params i.body i.sc [] kws f fd ∧ FnScope i.N i.ps i.sc ∧ mg x = some (.ref f) ∧ (i.sh = [] → Binds K fd i.ps []) ∧ ∀ s ∈ i.sh, ShB K fd i.ps s
/-- a def's entry: arguments shared, all else unset -/
theorem SR.entry {K : PySem.W.Frag} {N : List Str} {H G : Hp} {vs : List V} {ds : List D} (e : Same G H) (r : RpAll K G vs ds) (hl : ds.length ≤ N.length) : SR ⟨K, N, H, G⟩ (envOf N ds) (start N vs) H G := by
  have len := r.length
  have hget : ∀ (i : Nat) s, (envOf N ds)[i]? = some (some s) → ∃ d, ds[i]? = some d ∧ s = ⟨d, false⟩ := fun i s h => by
    unfold envOf at h
    by_cases q : i < ds.length
    · rw [List.getElem?_append_left (by rw [List.length_map]; exact q), List.getElem?_map] at h
      cases z : ds[i]? with
      | none => rw [z] at h; cases h
      | some d => rw [z] at h; cases h; exact ⟨d, rfl, rfl⟩
    · rw [List.getElem?_append_right (by rw [List.length_map]; omega), List.length_map, List.getElem?_replicate] at h
      split at h
      · cases h
      · cases h
  refine ⟨Same.refl _, fun _ _ => rfl, e, ?_, ?_, fun i d h => ?_, fun i d h => ?_, fun i j d e' p _ h => ?_⟩
  · simp only [envOf, List.length_append, List.length_map, List.length_replicate]
    show ds.length + (N.length - ds.length) = N.length
    omega
  · simp only [envOf, L2.start, List.length_append, List.length_map, List.length_replicate]
    omega
  · obtain ⟨d', h1, h2⟩ := hget i _ h
    cases h2
    obtain ⟨v, hv, rp⟩ := RpAll.get r h1
    refine ⟨v, ?_, rp⟩
    unfold L2.start
    have q : i < vs.length := by
      have := (List.getElem?_eq_some_iff.mp hv).1
      exact this
    rw [List.getElem?_append_left (by rw [List.length_map]; exact q), List.getElem?_map, hv]
    rfl
  · obtain ⟨d', _, h2⟩ := hget i _ h
    cases h2
  · obtain ⟨d', _, h2⟩ := hget i _ h
    cases h2
section
variable {P : Program} {w : World} {K : PySem.W.Frag} {mg : Str → Option Value} {base : Heap} {gl : Str → Option D} {tab : Str → Option Df} {n : Nat}
theorem call_ok (T : TabOk K mg gl tab) : ∀ (k : Nat) (x : Str) (i : Df), tab x = some i → ∃ f fd, FnK P w K mg base k f fd i.ps (spD K (callN gl tab n k x)) ∧ mg x = some (.ref f) ∧ PySem.W.keepIn K (.ref f) = true ∧ (i.sh = [] → Binds K fd i.ps []) ∧ ∀ s ∈ i.sh, ShB K fd i.ps s
  | k, x, i, hx => by
    obtain ⟨f, fd, qual, params, kws, F, hS, hm, hB, hB2⟩ := T.fns x i hx
    refine ⟨f, fd, ?_, hm, F.kp, hB, hB2⟩
    have hlen : ∀ (vs : List V) (H : Hp) (Q : VK) (E : XK), spD K (callN gl tab n k x) vs H Q E → vs.length = i.ps.length := fun vs H Q E h => by
      obtain ⟨G, ds, d, fr, _, hr, hg, _⟩ := h
      cases k with
      | zero => cases hg
      | succ k =>
        simp only [callN] at hg
        rw [hx] at hg
        simp only [runD] at hg
        split at hg
        · rename_i hl
          rw [hr.length]; exact hl
        · cases hg
    cases k with
    | zero => exact ⟨hlen, fun A outer s H args us vs Q E _ _ _ _ _ h => by obtain ⟨_, _, _, _, _, _, hg, _⟩ := h; cases hg⟩
    | succ k =>
      obtain ⟨oc, od, dV, kV, doc, pm, an, cdv, ct, osl, rfl, lk, hcd, _, _⟩ := F.ex
      refine fn_ofK lk hcd hS hlen fun A outer s H vs Q E hr hgd h => ?_
      obtain ⟨G, ds, d, fr, gh, rs, hg, hq⟩ := h
      simp only [callN] at hg
      rw [hx] at hg
      simp only [runD] at hg
      split at hg
      · rename_i hl
        have hN : i.ps.length ≤ i.N.length := by
          have := congrArg List.length hS.pre
          rw [List.length_take] at this
          omega
        have g : Good ⟨i.N, gl, callN gl tab n k, shT tab⟩ ⟨i.sc, fun _ => true⟩ k (cxOf CX0 P w K mg base i.N qual i.sc f cdv A outer s H E).nox :=
          { N := rfl
            nd := hS.nd
            sc := rfl
            fn := rfl
            kd := hS.kind
            calm := rfl
            low := T.sys
            gd := (deeper_guards _ _).trans hgd
            rm := hr
            hp := PassesOwn.never
            bi := T.bi
            gl := T.gls
            cf := fun y es r hy => by
              cases hz : tab y with
              | none =>
                cases k with
                | zero => cases hy
                | succ k =>
                  simp only [callN] at hy
                  rw [hz] at hy
                  cases hy
              | some j =>
                obtain ⟨f', fd', h1, h2, h3, h4, h5⟩ := call_ok T k y j hz
                have e : shT tab y = j.sh := by unfold shT; rw [hz]
                exact ⟨f', fd', j.ps, h1, h2, h3, by rw [show (⟨i.N, gl, callN gl tab n k, shT tab⟩ : Ct).sh y = j.sh from e]; exact h4, by rw [show (⟨i.N, gl, callN gl tab n k, shT tab⟩ : Ct).sh y = j.sh from e]; exact h5⟩ }
        refine ⟨_, (sndS _ n).ss (C := ⟨K, i.N, H, G⟩) g rfl rfl i.body, ?_⟩
        cases hz : exs ⟨i.N, gl, callN gl tab n k, shT tab⟩ ⟨i.sc, fun _ => true⟩ n i.body (envOf i.N ds) with
        | none => rw [hz] at hg; cases hg
        | some fl =>
          rw [hz] at hg
          refine ⟨envOf i.N ds, G, fl, SR.entry gh rs (by rw [hl]; exact hN), hz, ?_⟩
          have stp : ∀ {H' G' : Hp}, Same H H' → (∀ a, H a ≠ none → G' a = G a) → Same G' H' → Step H G H' G' := fun {H' G'} a1 a2 a3 =>
            ⟨a1, fun b o hb => by
              rw [a2 b (by rw [gh b o hb]; exact fun z => nomatch z)]
              exact hb, a3, a2⟩
          cases fl with
          | rt d' fr' =>
            cases hg
            exact fun v H' G' a1 a2 a3 rv => hq v H' G' (stp a1 a2 a3) rv
          | nx e' =>
            cases hg
            exact fun σ' H' G' _ sr => hq .non H' G' (stp sr.h0 sr.g0 sr.gh) .non
          | bk e' => cases hg
          | ct e' => cases hg
      · cases hg
theorem fst_true {H G' H' : Hp} {fr : Bool} {v : V} (h : ResV K H G' H' fr v (.bool true)) : v = .bl true := by
  cases fr with
  | false =>
    have h' : Rp K G' v (.bool true) := h
    cases h'
    rfl
  | true =>
    obtain ⟨_, _, _, _, _, _, h1 | h1⟩ := h
    · obtain ⟨_, _, _, z, _⟩ := h1
      cases z
    · obtain ⟨_, _, _, z, _⟩ := h1
      cases z
end
/-! ### the law's end -/
theorem rp_ints {K : PySem.W.Frag} {G : Hp} : ∀ ns : List Int, RpAll K G (ns.map V.int) (ns.map PyData.int)
  | [] => .nil
  | n :: ns => .cons (.int n) (rp_ints ns)
section
variable {P : Program} {w : World} {K : PySem.W.Frag} {mg mb : Str → Option Value} {k : Nat} {fa a : Addr} {x : Str} {g : List D → Option (D × Bool)} {s0 : Shared} {us : List Value} {ns : List Int}
theorem lawCallK (kin : K.In s0.heap) (nm : s0.heap.Ns mainGlobals mg) (nb : s0.heap.Ns builtinsNs mb) (hbi : ∀ y : Str, y ≠ "__name__" → mb y = bootBuiltins y) (nl : s0.heap.NoLimit) (ng : s0.gens = #[])
    (oa : s0.heap.get? a = some { cls := .type "list", data := .seq us.toArray }) (hi : IntsAre us ns) (hl : ns.length ≤ sizeLine) (rm : Room k callerA) (nk : K.lookup a = none)
    (F : ∀ base : Heap, ∃ fd, FnK P w K mg base k fa fd [x] (spD K g) ∧ Binds K fd [x] [])
    (hg : ∃ fr, g [.list (ns.map PyData.int)] = some (.bool true, fr)) :
    codeAny (model P w) callerA (.call (.ref fa) ⟨[.ref a], []⟩) (fun r t => r = .ok (.ret (.bool true)) ∧ OldK s0.heap t.heap ∧ t.os = s0.os ∧ AllBare t.gens) s0 := by
  have rv := vals_ints hi
  let ob : Obj := { cls := .type "list", data := .seq us.toArray }
  let H : Hp := fun b => if b = a then some (.frz ob (.lst (ns.map V.int))) else none
  have hHa : H a = some (.frz ob (.lst (ns.map V.int))) := if_pos rfl
  have hHn : ∀ {b : Addr}, b ≠ a → H b = none := fun {b} q => if_neg q
  have hHs : ∀ {b : Addr} {o : HO}, H b = some o → b = a ∧ o = .frz ob (.lst (ns.map V.int)) := fun {b o} q => by
    by_cases z : b = a
    · subst z
      rw [hHa] at q
      cases q
      exact ⟨rfl, rfl⟩
    · rw [hHn z] at q
      cases q
  have hok : HOk P w H s0.heap := fun b u q => by
    obtain ⟨rfl, rfl⟩ := hHs q
    exact ⟨oa, by rw [List.length_map]; exact hl, us, _, rv, oa⟩
  have up : ∀ {b : Addr} {o : Obj}, s0.heap.get? b = some o → b ≠ a → (hidT s0.heap H).get? b = some o := fun q z => hidT_get q (hHn z)
  have upN : ∀ {b : Addr} {m : Str → Option Value}, s0.heap.Ns b m → (hidT s0.heap H).Ns b m := fun {b m} q => by
    obtain ⟨o, es, ep, q1, q2, q3⟩ := q
    refine ⟨o, es, ep, up q1 fun z => ?_, q2, q3⟩
    subst z
    rw [oa] at q1
    cases q1
    cases q2
  have upK : K.In (hidT s0.heap H) := fun b o q => up (kin b o q) fun z => by
    subst z
    rw [nk] at q
    cases q
  have md : Mod K mg (hidT s0.heap H) := by
    refine ⟨upK, upN nm, ⟨mb, upN nb, hbi⟩, ?_⟩
    obtain ⟨mc, q1, q2⟩ := nl
    exact ⟨mc, upN q1, q2⟩
  have e0 : Env0 P w K mg (hidT s0.heap H) callerA [] s0 H :=
    ⟨rfl, md, fun b o q => of_hidT q, Nat.le_of_eq (hidT_size _ _), trivial, fun b q => absurd (show b ∈ ([] : List Addr) from q) (by simp), hok, .of_eq ng⟩
  obtain ⟨fr, hg⟩ := hg
  have hsp : spD K g [.ref a] H (fun v _ => v = .bl true) fun _ _ _ => False :=
    ⟨H, [.list (ns.map PyData.int)], .bool true, fr, Same.refl _, .cons (.lst (.inr ⟨ob, hHa⟩) (rp_ints ns)) .nil, hg, fun v H' G' _ q => fst_true q⟩
  obtain ⟨fd, Ff, hb⟩ := F (hidT s0.heap H)
  refine codeAny_mono (Ff.run callerA [] s0 H ⟨[.ref a], []⟩ [.ref a] [.ref a] _ _ rm rfl e0 (hb s0 [.ref a] kin rfl) (.cons rfl .nil) hsp) fun r t q => ?_
  cases r with
  | error e => exact False.elim q
  | ok fl =>
    cases fl with
    | ret u =>
      obtain ⟨v, H', q1, q2, q3, q4, q5, q6⟩ := q
      have q6' : v = .bl true := q6
      subst q6'
      obtain rfl : u = Value.bool true := q5
      refine ⟨rfl, OldK.of_keep fun b o z => ?_, q1, q2⟩
      by_cases y : b = a
      · subst y
        have f2 := q3.frzs b ob _ hHa
        obtain ⟨f3, _⟩ := hok b _ hHa
        obtain ⟨f4, _⟩ := q4 b _ f2
        rw [z] at f3
        cases f3
        exact f4
      · exact q3.keep b o z (hHn y) (fun q => absurd (show b ∈ ([] : List Addr) from q) (by simp)) (by simp)
    | _ => exact False.elim q
end
/-- a law: what F gives -/
theorem walkK {l : PySem.W.OpenLaw} {m k : Nat} {q : Program} {loose : List Str} {XP : (Str → Option Value) → Heap → Prop} {YP : World → Heap → Prop} {d : DefRec} {x : Str}
    (hm : l.most = some m) (hm2 : m ≤ sizeLine) (hdf : d.params.defaults = []) (hr : Room k callerA)
    (F : ∀ (w : World) (mg : Str → Option Value) (fa : Addr) (h : Heap), YP w h → h.Ns mainGlobals mg → mg d.name = some (.ref fa) → ∃ (K : PySem.W.Frag) (g : List D → Option (D × Bool)), K.In h ∧ (∀ b o, K.lookup b = some o → o.cls ≠ .type "list") ∧
      (∀ ns : List Int, ns.length ≤ m → ∃ fr, g [.list (ns.map PyData.int)] = some (.bool true, fr)) ∧ ∀ base : Heap, ∃ fd, FnK l.prog w K mg base k fa fd [x] (spD K g) ∧ Binds K fd [x] []) :
    PySem.W.WalkO q loose XP YP l.row.toRowW d [] (fun f vs => PySem.call f vs) := by
  refine Att.attach_call hm hdf fun w s₀ s₁ mg mb fa o pm cd doc a vs ns G Y ho hd hcd hmg hobj hints hlen hg => ?_
  obtain ⟨K, g, kin, kl, hgs, hF⟩ := F w mg fa _ Y G.T.g hmg
  refine lawCallK kin G.T.g G.T.b G.T.builtins G.T.nolimit hg hobj hints (Nat.le_trans hlen hm2) hr ?_ hF (hgs ns hlen)
  cases z : K.lookup a with
  | none => rfl
  | some ob =>
    have z2 := kin a ob z
    rw [hobj] at z2
    cases z2
    exact absurd rfl (kl a _ z)
end HC
set_option Elab.async false
set_option linter.all false
set_option maxRecDepth 100000
set_option maxHeartbeats 1000000
set_option autoImplicit false
/-! HC, part O: the head's facts for the interpreter's table. -/
namespace HC
open PySem PySem.Spec PyProof.Rows L2
/-- a def of the top: its name, its statement, its slots' names, its parameters -/
structure Dx where
  name : Str
  st : Stmt
  N : List Str
  ps : List Str
  kw : List (Str × D) := []
  sh : List Shape := []
def Dx.df (d : Dx) : Df := ⟨d.N, d.ps, defScope d.st, defBody d.st, d.sh⟩
def dvOf : D → He.Dv
  | .none => .non
  | .bool b => .bl b
  | .int i => .int i
  | .str x => .str x
  | _ => .non
def isScal : D → Bool
  | .none => true
  | .bool _ => true
  | .int _ => true
  | .str _ => true
  | _ => false
theorem dvOf_rp {K : PySem.W.Frag} {G : Hp} {d : D} (h : isScal d = true) : Rp K G (He.Dv.v K (dvOf d)) d := by
  cases d with
  | none => exact .non
  | bool b => exact .bl b
  | int i => exact .int i
  | str x => exact .str x
  | _ => cases h
def Dx.dd (d : Dx) : He.DefD := ⟨(d.name, none), d.name, d.name, defArgs d.st, defBody d.st, defScope d.st, [], d.kw.map fun q => (q.1, dvOf q.2)⟩
def tabOf : List Dx → Str → Option Df
  | [], _ => none
  | d :: ds, x => if d.name = x then some d.df else tabOf ds x
theorem tabOf_mem {x : Str} {i : Df} : ∀ {ds : List Dx}, tabOf ds x = some i → ∃ d ∈ ds, d.name = x ∧ d.df = i
  | [], h => by cases h
  | d :: ds, h => by
    unfold tabOf at h
    split at h
    · rename_i e
      cases h
      exact ⟨d, List.mem_cons_self .., e, rfl⟩
    · obtain ⟨d', m, h1⟩ := tabOf_mem h
      exact ⟨d', List.mem_cons_of_mem _ m, h1⟩
/-- a shape's binding, of a def whose keyword-only parameters have defaults -/
structure ShOk (d : Dx) (s : Shape) : Prop where
  sub : ∀ q ∈ s.ms, q ∈ d.kw
  scal : ∀ q ∈ s.ms, isScal q.2 = true
  ne : d.kw ≠ []
  bd : ∀ (D : Addr) (doc pm : Value) (an : Option Addr) (cdv ct : Value) (us mv ws : List Value), us.length = s.n → mv.length = s.ms.length → ws.length = s.ks.length →
    KwChain D ((s.ms.map (·.1)).zip mv) (bindArgs (PySem.W.fnOf d.name d.name (defArgs d.st) (defBody d.st) (defScope d.st) .none (.ref D) doc pm an cdv ct) ⟨us, s.ks.zip ws⟩) (d.ps.zip (fill s.pl us mv ws))
def ShsOk (d : Dx) : List Shape → Prop
  | [] => True
  | s :: ss => ShOk d s ∧ ShsOk d ss
theorem ShsOk.mem {d : Dx} {s : Shape} : ∀ {l : List Shape}, ShsOk d l → s ∈ l → ShOk d s
  | t :: l, h, m => by
    cases m with
    | head => exact h.1
    | tail _ m => exact ShsOk.mem h.2 m
structure DOk (d : Dx) : Prop where
  sc : FnScope d.N d.ps (defScope d.st)
  bd : d.sh = [] → ∀ (kV doc pm : Value) (an : Option Addr) (cdv ct : Value) (us : List Value), us.length = d.ps.length → bindArgs (PySem.W.fnOf d.name d.name (defArgs d.st) (defBody d.st) (defScope d.st) .none kV doc pm an cdv ct) ⟨us, []⟩ = pure (d.ps.zip us)
  shs : ShsOk d d.sh
theorem rp_ms {K : PySem.W.Frag} {G : Hp} : ∀ {l : List (Str × D)}, (∀ q ∈ l, isScal q.2 = true) → RpAll K G (l.map fun q => He.Dv.v K (dvOf q.2)) (l.map (·.2))
  | [], _ => .nil
  | q :: l, h => .cons (dvOf_rp (h q (List.mem_cons_self ..))) (rp_ms fun p hp => h p (List.mem_cons_of_mem _ hp))
theorem ShOk.shb {K : PySem.W.Frag} {d : Dx} {s : Shape} {f : Addr} {fd : FuncData} (h : ShOk d s) (F : FunD K d.name d.name (defArgs d.st) (defBody d.st) (defScope d.st) [] (d.kw.map fun q => (q.1, He.Dv.v K (dvOf q.2))) f fd) : ShB K fd d.ps s := by
  have e1 : (s.ms.map fun q => (q.1, He.Dv.v K (dvOf q.2))).map (·.1) = s.ms.map (·.1) := by rw [List.map_map]; rfl
  have e2 : (s.ms.map fun q => (q.1, He.Dv.v K (dvOf q.2))).map (·.2) = s.ms.map fun q => He.Dv.v K (dvOf q.2) := by rw [List.map_map]; rfl
  obtain ⟨mv, hb⟩ := F.kbinds0 s.n s.ks (s.ms.map fun q => (q.1, He.Dv.v K (dvOf q.2))) (fun {α} us mv ws => fill s.pl us mv ws) (by
      intro z
      exact h.ne (List.map_eq_nil_iff.mp z)) (fun q hq => by
      obtain ⟨p, hp, rfl⟩ := List.mem_map.mp hq
      exact List.mem_map.mpr ⟨p, h.sub p hp, rfl⟩) (fun r1 r2 r3 => fill_rel r1 r2 r3 s.pl) fun D doc pm an cdv ct us mv ws l1 l2 l3 => by
        rw [e1]
        exact h.bd D doc pm an cdv ct us mv ws l1 (by rw [l2, List.length_map]) l3
  refine ⟨_, _, hb, fun G vs zs ds es r1 r2 => ?_⟩
  show RpAll K G (fill s.pl vs ((s.ms.map fun q => (q.1, He.Dv.v K (dvOf q.2))).map (·.2)) zs) _
  rw [e2]
  exact fill_rp r1 (rp_ms h.scal) r2 s.pl
def DsOk : List Dx → Prop
  | [] => True
  | d :: ds => DOk d ∧ DsOk ds
theorem DsOk.mem {d : Dx} : ∀ {ds : List Dx}, DsOk ds → d ∈ ds → DOk d
  | e :: ds, h, m => by
    cases m with
    | head => exact h.1
    | tail _ m => exact DsOk.mem h.2 m
/-- a constant of the module -/
structure Gx where
  name : Str
  d : D
def glOf : List Gx → Str → Option D
  | [], _ => none
  | g :: gs, x => if g.name = x then some g.d else glOf gs x
theorem glOf_mem {x : Str} {d : D} : ∀ {gs : List Gx}, glOf gs x = some d → ∃ g ∈ gs, g.name = x ∧ g.d = d
  | [], h => by cases h
  | g :: gs, h => by
    unfold glOf at h
    split at h
    · rename_i e
      cases h
      exact ⟨g, List.mem_cons_self .., e, rfl⟩
    · obtain ⟨d', m, h1⟩ := glOf_mem h
      exact ⟨d', List.mem_cons_of_mem _ m, h1⟩
/-! u is the datum d, by the module's own objects -/
mutual
def repB (K : PySem.W.Frag) : Nat → Value → D → Bool
  | 0, _, _ => false
  | n + 1, u, d => (match d with
    | .none => (match u with
      | .none => true
      | _ => false)
    | .bool b => (match u with
      | .bool c => b == c
      | _ => false)
    | .int i => (match u with
      | .int j _ => decide (i = j)
      | _ => false)
    | .str x => (match u with
      | .str y _ => decide (x = y)
      | _ => false)
    | .tuple ds => (match u with
      | .ref a => (match K.lookup a with
        | some ⟨.type c, _, .seq its _, _⟩ => decide (c = "tuple") && (decide (its.size ≤ sizeLine) && repBs K n its.toList ds)
        | _ => false)
      | _ => false)
    | _ => false)
def repBs (K : PySem.W.Frag) : Nat → List Value → List D → Bool
  | 0, _, _ => false
  | _, [], [] => true
  | n + 1, u :: us, d :: ds => repB K n u d && repBs K n us ds
  | _, _, _ => false
end
mutual
theorem repB_ok {K : PySem.W.Frag} : ∀ {n : Nat} {u : Value} {d : D}, repB K n u d = true → ∃ v, RelV v u ∧ ∀ G, Rp K G v d
  | 0, _, _, h => by cases h
  | n + 1, u, d, h => by
    cases d with
    | none =>
      cases u with
      | none => exact ⟨.non, rfl, fun _ => .non⟩
      | _ => cases h
    | bool b =>
      cases u with
      | bool c =>
        have h1 : (b == c) = true := h
        have e := eq_of_beq h1
        subst e
        exact ⟨.bl b, rfl, fun _ => .bl b⟩
      | _ => cases h
    | int i =>
      cases u with
      | int j t =>
        have e : i = j := of_decide_eq_true h
        subst e
        exact ⟨.int i, ⟨t, rfl⟩, fun _ => .int i⟩
      | _ => cases h
    | str x =>
      cases u with
      | str y t =>
        have e : x = y := of_decide_eq_true h
        subst e
        exact ⟨.str x, ⟨t, rfl⟩, fun _ => .str x⟩
      | _ => cases h
    | tuple ds =>
      cases u with
      | ref a =>
        have h1 : (match K.lookup a with
          | some ⟨.type c, _, .seq its _, _⟩ => decide (c = "tuple") && (decide (its.size ≤ sizeLine) && repBs K n its.toList ds)
          | _ => false) = true := h
        cases q : K.lookup a with
        | none => rw [q] at h1; cases h1
        | some o =>
          obtain ⟨oc, od, dt, osl⟩ := o
          rw [q] at h1
          cases oc with
          | type c =>
            cases dt with
            | seq its m =>
              obtain ⟨h2, h3⟩ := He.ba h1
              obtain ⟨h4, h5⟩ := He.ba h3
              obtain ⟨vs, hv, hr⟩ := repBs_ok h5
              exact ⟨.ref a, rfl, fun G => .tup (.inr ⟨_, its, m, q, congrArg Value.type (of_decide_eq_true h2), rfl, of_decide_eq_true h4, hv⟩) (hr G)⟩
            | _ => cases h1
          | _ => cases dt <;> cases h1
      | _ => cases h
    | _ => cases h
theorem repBs_ok {K : PySem.W.Frag} : ∀ {n : Nat} {us : List Value} {ds : List D}, repBs K n us ds = true → ∃ vs, Vals vs us ∧ ∀ G, RpAll K G vs ds
  | 0, _, _, h => by cases h
  | n + 1, [], [], _ => ⟨[], .nil, fun _ => .nil⟩
  | n + 1, [], _ :: _, h => by cases h
  | n + 1, _ :: _, [], h => by cases h
  | n + 1, u :: us, d :: ds, h => by
    obtain ⟨h1, h2⟩ := He.ba (show (repB K n u d && repBs K n us ds) = true from h)
    obtain ⟨v, r1, r2⟩ := repB_ok h1
    obtain ⟨vs, r3, r4⟩ := repBs_ok h2
    exact ⟨v :: vs, .cons r1 r3, fun G => .cons (r2 G) (r4 G)⟩
end
def glB (K : PySem.W.Frag) (g : Gx) : Bool := match PySem.W.nsIn K mainGlobals g.name with
  | some (some u) => repB K 40 u g.d
  | _ => false
def noLst (o : Obj) : Bool := match o.cls with
  | .type c => !decide (c = "list")
  | _ => true
/-- what lies in the part that the promise leans on -/
def extraB (gs : List Gx) (K : PySem.W.Frag) : Bool := (K.lookup sysModules).isSome && ((K.all fun p => noLst p.2) && gs.all fun g => glB K g)
def fas (ds : List Dx) : List He.Fa := ds.map (fun d => .glo d.name) ++ biNames.map .free
def frH (n : Nat) (g : Addr → Option Obj) : PySem.W.Frag := He.frG g (sysModules :: He.asD g n)
abbrev AlH : Type := Bool × He.AlD
def obsH (ds : List Dx) (gs : List Gx) (K : PySem.W.Frag) : AlH := (extraB gs K, He.obsD (fas ds) (ds.map Dx.dd) K)
def hookH (n : Nat) (ds : List Dx) (gs : List Gx) : PySem.W.Hook where
  α := AlH
  obs := fun s => obsH ds gs (frH n s.heap.get?)
  val := fun _ => (true, He.valD (ds.map Dx.dd))
  says := fun _ h => ∃ K : PySem.W.Frag, K.In h ∧ obsH ds gs K = (true, He.valD (ds.map Dx.dd))
  of := fun _ _ e => ⟨_, He.frG_in, e⟩
  keeps := fun _ _ _ ⟨K, hK, c⟩ k => ⟨K, PySem.W.Frag.In.keeps hK k, c⟩
def obH (n : Nat) (ds : List Dx) (gs : List Gx) (s : PySem.W.SharedT) : AlH := obsH ds gs (frH n (HandSHeadRun.getT s))
theorem obH_eq (n : Nat) (ds : List Dx) (gs : List Gx) (s : PySem.W.SharedT) : obH n ds gs s = (hookH n ds gs).obs s.abs := by
  show obsH ds gs (frH n (HandSHeadRun.getT s)) = obsH ds gs (frH n s.abs.heap.get?)
  have e : HandSHeadRun.getT s = s.abs.heap.get? := funext (HandSHeadRun.getT_eq s)
  rw [e]
section
variable {K : PySem.W.Frag} {h : Heap} {mg : Str → Option Value} {ds : List Dx} {gs : List Gx}
theorem fact_mem {fa : List He.Fa} {fn : List He.DefD} (c : He.SaysD fa fn K) {f : He.Fa} (m : f ∈ fa) : f.ok K = true := by
  obtain ⟨i, hi⟩ := List.getElem?_of_mem m
  exact c.fact i hi
theorem def_mem {fa : List He.Fa} {fn : List He.DefD} (c : He.SaysD fa fn K) {d : He.DefD} (m : d ∈ fn) : ∃ fd, FunD K d.name d.qual d.params d.body d.scope (d.dvs K) (d.kws K) (He.fAd K d.at_) fd := by
  obtain ⟨i, hi⟩ := List.getElem?_of_mem m
  exact c.def_ i hi
theorem lookup_mem {a : Addr} {o : Obj} : ∀ {K : PySem.W.Frag}, K.lookup a = some o → ∃ p ∈ K, p.2 = o
  | [], e => nomatch (show (none : Option Obj) = some o from e)
  | (b, ob) :: r, e => by
    have e2 : (match a == b with | true => some ob | false => List.lookup a r) = some o := e
    cases q : (a == b) with
    | true =>
      rw [q] at e2
      exact ⟨_, List.mem_cons_self .., Option.some.inj e2⟩
    | false =>
      rw [q] at e2
      obtain ⟨p, m, z⟩ := lookup_mem (K := r) e2
      exact ⟨p, List.mem_cons_of_mem _ m, z⟩
theorem saysH (X : K.In h) (G : h.Ns mainGlobals mg) (c : obsH ds gs K = (true, He.valD (ds.map Dx.dd))) (hd : DsOk ds) : TabOk K mg (glOf gs) (tabOf ds) ∧ ∀ b o, K.lookup b = some o → o.cls ≠ .type "list" := by
  have c1 : extraB gs K = true := congrArg (fun z : AlH => z.1) c
  have c2 : He.SaysD (fas ds) (ds.map Dx.dd) K := congrArg (fun z : AlH => z.2) c
  obtain ⟨x1, x2⟩ := He.ba c1
  obtain ⟨x3, x4⟩ := He.ba x2
  refine ⟨⟨Option.isSome_iff_exists.mp x1, fun x m => ?_, fun x d e => ?_, fun x i e => ?_⟩, fun b o e z => ?_⟩
  · exact He.free_ok X G (fact_mem c2 (List.mem_append_right _ (List.mem_map_of_mem m)))
  · obtain ⟨g, m, e1, e2⟩ := glOf_mem e
    subst e1 e2
    have b := List.all_eq_true.mp x4 g m
    unfold glB at b
    split at b
    · rename_i u q
      obtain ⟨v, r1, r2⟩ := repB_ok b
      exact ⟨u, v, PySem.W.mg_of X G q, r1, r2⟩
    · cases b
  · obtain ⟨d, m, e1, e2⟩ := tabOf_mem e
    subst e1 e2
    obtain ⟨fd, F⟩ := def_mem c2 (List.mem_map_of_mem m)
    have dk := hd.mem m
    have F' : FunD K d.name d.name (defArgs d.st) (defBody d.st) (defScope d.st) [] (d.kw.map fun q => (q.1, He.Dv.v K (dvOf q.2))) (He.ga K d.name) fd := by
      have e : (d.kw.map fun q => (q.1, He.Dv.v K (dvOf q.2))) = d.dd.kws K := by
        show _ = (d.kw.map fun q => (q.1, dvOf q.2)).map fun q => (q.1, He.Dv.v K q.2)
        rw [List.map_map]; rfl
      rw [e]
      exact F
    exact ⟨_, fd, d.name, _, _, F', dk.sc, He.glo_ok X G (fact_mem c2 (List.mem_append_left _ (List.mem_map_of_mem m))), fun z => F'.bindsN (dk.bd z), fun s hs => (dk.shs.mem hs).shb F'⟩
  · obtain ⟨p, m, rfl⟩ := lookup_mem e
    have b := List.all_eq_true.mp x3 p m
    unfold noLst at b
    rw [z] at b
    simp at b
end
/-- a law over its table -/
theorem walkT {l : PySem.W.OpenLaw} {m k n hn : Nat} {q : Program} {loose : List Str} {XP : (Str → Option Value) → Heap → Prop} {dr : DefRec} {x y : Str} {ds : List Dx} {gs : List Gx} {i : Df}
    (hm : l.most = some m) (hm2 : m ≤ sizeLine) (hdf : dr.params.defaults = []) (hr : Room k callerA) (hd : DsOk ds) (hy : dr.name = y) (ht : tabOf ds y = some i) (hp : i.ps = [x]) (hsh : i.sh = [])
    (hg : ∀ ns : List Int, ns.length ≤ m → ∃ fr, callN (glOf gs) (tabOf ds) n k y [.list (ns.map PyData.int)] = some (.bool true, fr)) :
    PySem.W.WalkO q loose XP (hookH hn ds gs).says l.row.toRowW dr [] (fun f vs => PySem.call f vs) := by
  refine walkK (k := k) (x := x) hm hm2 hdf hr fun w mg fa h Y G hmg => ?_
  obtain ⟨K, KX, c⟩ := Y
  obtain ⟨T, kl⟩ := saysH KX G c hd
  refine ⟨K, callN (glOf gs) (tabOf ds) n k y, KX, kl, hg, fun base => ?_⟩
  obtain ⟨f', fd, r1, r2, _, r4, _⟩ := call_ok (P := l.prog) (w := w) (base := base) (n := n) T k y i ht
  have ef : f' = fa := by
    rw [hy] at hmg
    rw [hmg] at r2
    cases r2
    rfl
  subst ef
  have r4 := r4 hsh
  rw [hp] at r1 r4
  exact ⟨fd, r1, r4⟩
end HC
set_option Elab.async false
set_option linter.all false
set_option maxRecDepth 100000
set_option maxHeartbeats 1000000
set_option autoImplicit false
/-! HC, part P: plain reasoning about what defs mean: loops, comprehensions, tame data. -/
namespace HC
open PySem PySem.Spec PyProof.Rows L2
/-! ### loops -/
theorem forLoop_inv {α : Type} {f : α → D} {asg : MG} {body : MS} {P : List α → Env → Prop} (h : ∀ a as e, P (a :: as) e → ∃ e1 e2, asg (f a) e = some e1 ∧ body e1 = some (.nx e2) ∧ P as e2) :
    ∀ (as : List α) (env : Env), P as env → ∃ e', forLoop asg body (as.map f) env = some (.nx e') ∧ P [] e'
  | [], env, h0 => ⟨env, rfl, h0⟩
  | a :: as, env, h0 => by
    obtain ⟨e1, e2, h1, h2, h3⟩ := h a as env h0
    obtain ⟨e', h4, h5⟩ := forLoop_inv h as e2 h3
    refine ⟨e', ?_, h5⟩
    simp only [List.map_cons, forLoop, h1, h2, h4]
/-- what one turn of a comprehension hands on -/
def lc1 (inn : Env) (asg : MG) (tt : MT) (te : MV) (d : D) : Option (Option D) := match asg d inn with
  | some e1 => (match tt e1 with
    | some (true, e2) => (match te e2 with
      | some (y, _, _) => some (some y)
      | none => none)
    | some (false, _) => some none
    | none => none)
  | none => none
theorem lcLoop_fm {α : Type} {f : α → D} {g : α → Option D} {inn : Env} {asg : MG} {tt : MT} {te : MV} : ∀ {as : List α}, (∀ a ∈ as, lc1 inn asg tt te (f a) = some (g a)) → lcLoop inn asg tt te (as.map f) = some (as.filterMap g)
  | [], _ => rfl
  | a :: as, h => by
    have h1 := h a (List.mem_cons_self ..)
    have ih := lcLoop_fm (f := f) (g := g) (inn := inn) (asg := asg) (tt := tt) (te := te) (as := as) fun b hb => h b (List.mem_cons_of_mem _ hb)
    unfold lc1 at h1
    rw [List.map_cons, List.filterMap_cons]
    simp only [lcLoop]
    cases q1 : asg (f a) inn with
    | none => rw [q1] at h1; cases h1
    | some e1 =>
      rw [q1] at h1
      dsimp only at h1 ⊢
      cases q2 : tt e1 with
      | none => rw [q2] at h1; cases h1
      | some r2 =>
        obtain ⟨b2, e2⟩ := r2
        rw [q2] at h1
        cases b2 with
        | false =>
          dsimp only at h1 ⊢
          rw [ih, ← Option.some.inj h1]
        | true =>
          dsimp only at h1 ⊢
          cases q3 : te e2 with
          | none => rw [q3] at h1; cases h1
          | some r3 =>
            obtain ⟨y, k3, e3⟩ := r3
            rw [q3] at h1
            dsimp only at h1 ⊢
            rw [ih, ← Option.some.inj h1]
theorem lcLoop_map {α : Type} {f : α → D} {g : α → D} {inn : Env} {asg : MG} {tt : MT} {te : MV} {as : List α} (h : ∀ a ∈ as, lc1 inn asg tt te (f a) = some (some (g a))) : lcLoop inn asg tt te (as.map f) = some (as.map g) := by
  rw [lcLoop_fm (g := fun a => some (g a)) h]
  congr 1
  induction as with
  | nil => rfl
  | cons a as ih => simp only [List.filterMap_cons, List.map_cons]; rw [ih fun b hb => h b (List.mem_cons_of_mem _ hb)]
/-! ### steps -/
theorem eSeq {a b : MS} {env e : Env} {r : Option Fl} (h1 : a env = some (.nx e)) (h2 : b e = r) : mSeq a b env = r := by
  unfold mSeq
  rw [h1]
  exact h2
theorem eSeqR {a b : MS} {env : Env} {d : D} {fr : Bool} (h1 : a env = some (.rt d fr)) : mSeq a b env = some (.rt d fr) := by
  unfold mSeq
  rw [h1]
theorem eFor {α : Type} {f : α → D} {mi : ML} {asg : MG} {body : MS} {env e0 : Env} (P : List α → Env → Prop) (as : List α) (hi : mi env = some (as.map f, e0)) (h0 : P as e0)
    (h : ∀ a as e, P (a :: as) e → ∃ e1 e2, asg (f a) e = some e1 ∧ body e1 = some (.nx e2) ∧ P as e2) : ∃ e', mFor mi asg body env = some (.nx e') ∧ P [] e' := by
  obtain ⟨e', h1, h2⟩ := forLoop_inv h as e0 h0
  refine ⟨e', ?_, h2⟩
  unfold mFor
  rw [hi]
  exact h1
theorem eLc {js vs : List Nat} {mi : ML} {asg : MG} {tt : MT} {te : MV} {env e : Env} {ds ys : List D} (hi : mi env = some (ds, e)) (hl : lcLoop (inner vs (shIdx js e)) asg tt te ds = some ys) : mLc js vs mi asg tt te env = some (.list ys, .fr, shIdx js e) := by
  unfold mLc
  rw [hi]
  dsimp only
  rw [hl]
section
variable {env e e1 e2 e3 : Env} {d a b c : D} {k ka kb : Kd} {fr : Bool} {m ma mb : MV} {ms : List MV} {ml : ML} {ds ys : List D} {f1 : D → Option (D × Bool)} {f2 : D → D → Option (D × Bool)} {g : List D → Option (D × Bool)} {r : Option Fl} {fl : Fl} {mt : MT} {p q : MS} {i : Nat}
theorem oRt {fr : Bool} (h : r = some (.rt d fr)) : fOut r = some (d, fr) := by rw [h]; rfl
theorem eRet (h : m env = some (d, k, e)) : mRet m env = some (.rt d (frOf k)) := by unfold mRet; rw [h]
theorem eV1 (h : m env = some (a, k, e)) (h2 : f1 a = some (c, fr)) : ev1 m f1 env = some (c, kOf fr, e) := by
  unfold ev1; rw [h]; dsimp only; rw [h2]
theorem eV2 (h : ma env = some (a, ka, e1)) (h1 : mb e1 = some (b, kb, e2)) (h2 : f2 a b = some (c, fr)) : ev2 ma mb f2 env = some (c, kOf fr, e2) := by
  unfold ev2; rw [h]; dsimp only; rw [h1]; dsimp only; rw [h2]
theorem eBi {bi : Bi} (h : ml env = some (ds, e)) (h2 : dBi bi ds = some (c, fr)) : mBi bi ml env = some (c, kOf fr, e) := by
  unfold mBi; rw [h]; dsimp only; rw [h2]
theorem eCall (h : ml env = some (ds, e)) (h2 : g ds = some (c, fr)) : mCall g ml env = some (c, kOf fr, e) := by
  unfold mCall; rw [h]; dsimp only; rw [h2]
theorem eTup (h : ml env = some (ds, e)) (h2 : ds.length ≤ sizeLine) : mTup ml env = some (.tuple ds, .sh, e) := by
  unfold mTup; rw [h]; exact if_pos h2
theorem eLst (h : ml env = some (ds, e)) (h2 : ds.length ≤ sizeLine) : mLst ml env = some (.list ds, .fr, e) := by
  unfold mLst; rw [h]; exact if_pos h2
theorem eS (h : m env = some (d, k, e)) (t : lS ms (shEnv k d e) = some (ds, e1)) : lS (m :: ms) env = some (d :: ds, e1) := by
  simp only [lS, h, t]
theorem eR (h : m env = some (d, k, e)) (t : lR ms e = some (ds, e1)) : lR (m :: ms) env = some (d :: ds, e1) := by
  simp only [lR, h, t]
/-- where a value goes when it is assigned -/
def setE (i : Nat) (d : D) (k : Kd) (e : Env) : Env := match k with
  | .fr => e.set i (some ⟨d, true⟩)
  | _ => (shEnv k d e).set i (some ⟨d, false⟩)
theorem eSet (h : m env = some (d, k, e)) : mSet i m env = some (.nx (setE i d k e)) := by
  unfold mSet setE; rw [h]; cases k <;> rfl
theorem eAsg {asg : MG} (h : m env = some (d, k, e)) (h2 : asg d (shEnv k d e) = some e1) : mAsg m asg env = some (.nx e1) := by
  unfold mAsg; rw [h]; dsimp only; rw [h2]
theorem eSetI {mi mv : MV} {v j d0 dd d' : D} {kv kj : Kd} (h : mv env = some (v, kv, e1)) (h1 : (shEnv kv v e1)[i]? = some (some ⟨d0, true⟩)) (h2 : mi (shEnv kv v e1) = some (j, kj, e2)) (h3 : e2[i]? = some (some ⟨dd, true⟩)) (h4 : dSetI dd j v = some d') :
    mSetI i mi mv env = some (.nx (e2.set i (some ⟨d', true⟩))) := by
  unfold mSetI; rw [h]; dsimp only; rw [h1]; dsimp only; rw [h2]; dsimp only; rw [h3]; dsimp only; rw [h4]
theorem eMeth {t : Mt} {xs zs : List D} (h : env[i]? = some (some ⟨.list xs, true⟩)) (h1 : ml env = some (ds, e)) (h2 : e[i]? = some (some ⟨.list zs, true⟩)) (h3 : dMt t zs ds = some ys) : mMeth i t ml env = some (.nx (e.set i (some ⟨.list ys, true⟩))) := by
  unfold mMeth; rw [h]; dsimp only; rw [h1]; dsimp only; rw [h2]; dsimp only; rw [h3]
theorem eBool {b : Bool} (h : m env = some (.bool b, k, e)) : mBool m env = some (b, e) := by
  unfold mBool; rw [h]
theorem eTru {b : Bool} (h : m env = some (d, k, e)) (h2 : dTru d = some b) : mTru m env = some (b, e) := by
  unfold mTru; rw [h]; dsimp only; rw [h2]
theorem eIfT (h : mt env = some (true, e)) (h2 : p e = r) : mIfS mt p q env = r := by
  unfold mIfS; rw [h]; exact h2
theorem eIfF (h : mt env = some (false, e)) (h2 : q e = r) : mIfS mt p q env = r := by
  unfold mIfS; rw [h]; exact h2
theorem eIfB {b : Bool} (h : mt env = some (b, e)) : mIfS mt p q env = if b = true then p e else q e := by
  unfold mIfS; rw [h]; cases b <;> rfl
theorem eSlc {lo hi : Option MV} {l h' : Option Int} (h : m env = some (a, k, e1)) (h1 : mPart lo e1 = some (l, e2)) (h2 : mPart hi e2 = some (h', e3)) (h3 : dSl a l h' = some (c, fr)) : mSl m lo hi env = some (c, kOf fr, e3) := by
  unfold mSl; rw [h]; dsimp only; rw [h1]; dsimp only; rw [h2]; dsimp only; rw [h3]
theorem ePart {i : Int} (h : m env = some (.int i, k, e)) : mPart (some m) env = some (some i, e) := by
  simp only [mPart, h]
theorem eItV (h : m env = some (d, k, e)) (h2 : iterD d = some ds) : miVal m env = some (ds, shEnv k d e) := by
  unfold miVal; rw [h]; dsimp only; rw [h2]
theorem eItE (h : ml env = some ([.list ds], e)) : miEnum ml env = some (enumD 0 ds, e) := by
  unfold miEnum; rw [h]
theorem eItR {n : Nat} (h : ml env = some ([.int (n : Nat)], e)) (hn : n ≤ sizeLine) : miRange ml env = some (rangeD n, e) := by
  unfold miRange; rw [h]
  have : ((n : Nat) : Int) ≤ (sizeLine : Nat) ∧ -(2 ^ 62) ≤ ((n : Nat) : Int) := ⟨by exact_mod_cast hn, by
    have : (0 : Int) ≤ (n : Nat) := Int.natCast_nonneg n
    omega⟩
  exact if_pos this
theorem eCmp {op : CmpOp} {b' : Bool} (h : dCmp op a b = some b') : dCmpR op a b = some (.bool b', false) := by
  unfold dCmpR; rw [h]
theorem eAnd2 {m1 m2 : MT} {x y : Bool} (h1 : m1 env = some (x, env)) (h2 : m2 env = some (y, env)) : mAnd [m1, m2] env = some (x && y, env) := by
  cases x <;> simp only [mAnd, h1, h2] <;> cases y <;> rfl
theorem eOr2 {m1 m2 : MT} {x y : Bool} (h1 : m1 env = some (x, env)) (h2 : m2 env = some (y, env)) : mOr [m1, m2] env = some (x || y, env) := by
  cases x <;> simp only [mOr, h1, h2] <;> cases y <;> rfl
theorem eOrF {m1 : MT} {mts : List MT} {o : Option (Bool × Env)} (h1 : m1 env = some (false, e)) (h2 : mOr mts e = o) : mOr (m1 :: mts) env = o := by
  simp only [mOr, h1]; exact h2
theorem eOrN : mOr [] env = some (false, env) := rfl
theorem eAndT {m1 : MT} {mts : List MT} {o : Option (Bool × Env)} (h1 : m1 env = some (true, e)) (h2 : mAnd mts e = o) : mAnd (m1 :: mts) env = o := by
  simp only [mAnd, h1]; exact h2
theorem eAndF {m1 : MT} {mts : List MT} (h1 : m1 env = some (false, e)) : mAnd (m1 :: mts) env = some (false, e) := by
  simp only [mAnd, h1]
theorem eAndN : mAnd [] env = some (true, env) := rfl
theorem toX {v x : Int} (h : m env = some (.int v, k, e)) (hv : v = x) : m env = some (.int x, k, e) := by rw [h, hv]
theorem toX2 {v x : Int} (h : m env = some (.int v, k, e)) (hv : v = x) (hk : k = .sh) : m env = some (.int x, .sh, e) := by rw [h, hv, hk]
theorem eVarS (h : env[i]? = some (some ⟨d, false⟩)) : mVar i env = some (d, .sh, env) := by
  unfold mVar; rw [h]; rfl
theorem eVarO (h : env[i]? = some (some ⟨d, true⟩)) : mVar i env = some (d, .bw i, env) := by
  unfold mVar; rw [h]; rfl
theorem eCon : mConst d env = some (d, .sh, env) := rfl
theorem eSn : lS [] env = some ([], env) := rfl
theorem eRn : lR [] env = some ([], env) := rfl
theorem ePn : mPart none env = some (none, env) := rfl
theorem eSk : mSkip env = some (.nx env) := rfl
theorem eAdd {i j : Int} : dBin .Add (.int i) (.int j) = some (.int (i + j), false) := rfl
theorem eSub {i j : Int} : dBin .Sub (.int i) (.int j) = some (.int (i - j), false) := rfl
theorem eMod {i j : Int} (h : 0 < j) : dBin .Mod (.int i) (.int j) = some (.int (i % j), false) := if_pos h
theorem eDiv {i j : Int} (h : 0 < j) (h2 : j < 1073741824) : dBin .FloorDiv (.int i) (.int j) = some (.int (i / j), false) := if_pos ⟨h, h2⟩
theorem eMul {i j : Int} (h : okMul i j = true) : dBin .Mult (.int i) (.int j) = some (.int (i * j), false) := if_pos h
theorem ePow {i j : Int} (h : 0 ≤ j ∧ j ≤ 1000000 ∧ i.natAbs < 2 ^ 64) : dBin .Pow (.int i) (.int j) = some (.int (i ^ j.toNat), false) := if_pos h
theorem eAddL {xs ys : List D} (h : xs.length + ys.length ≤ sizeLine) : dBin .Add (.list xs) (.list ys) = some (.list (xs ++ ys), true) := if_pos h
theorem eAddT {xs ys : List D} (h : xs.length + ys.length ≤ sizeLine) : dBin .Add (.tuple xs) (.tuple ys) = some (.tuple (xs ++ ys), false) := if_pos h
theorem eIxL {xs : List D} {j : Nat} (h : xs[j]? = some d) : dIx (.list xs) (.int (j : Nat)) = some (d, false) := by
  have hl := (List.getElem?_eq_some_iff.mp h).1
  have : atI xs ((j : Nat) : Int) = some d := by
    unfold atI ixN
    rw [if_pos (Int.natCast_nonneg j), if_pos (by exact_mod_cast hl)]
    exact h
  simp only [dIx, this]
theorem eIxT {xs : List D} {j : Nat} (h : xs[j]? = some d) : dIx (.tuple xs) (.int (j : Nat)) = some (d, false) := by
  have hl := (List.getElem?_eq_some_iff.mp h).1
  have : atI xs ((j : Nat) : Int) = some d := by
    unfold atI ixN
    rw [if_pos (Int.natCast_nonneg j), if_pos (by exact_mod_cast hl)]
    exact h
  simp only [dIx, this]
end
/-! ### tame data -/
structure Nice (a b : Nat) (d : D) : Prop where
  lay : d.canLay0 = true
  sh : d.showable = true
  dp : d.depth ≤ a
  ln : d.shown.length ≤ b
theorem Nice.mono {a b a' b' : Nat} {d : D} (h : Nice a b d) (h1 : a ≤ a') (h2 : b ≤ b') : Nice a' b' d := ⟨h.lay, h.sh, Nat.le_trans h.dp h1, Nat.le_trans h.ln h2⟩
theorem Nice.shaped {a b : Nat} {d : D} (h : Nice a b d) (ha : a ≤ 64) : SeqAt.shaped d = true := by
  unfold SeqAt.shaped
  rw [h.lay, Bool.true_and]
  exact decide_eq_true (Nat.le_trans h.dp ha)
theorem Nice.okShow {a b : Nat} {d : D} (h : Nice a b d) (ha : a ≤ 64) (hb : b ≤ sizeLine) : okShow d = true := by
  unfold HC.okShow
  rw [h.sh, Bool.true_and, Bool.and_eq_true]
  exact ⟨decide_eq_true (Nat.le_trans h.ln hb), decide_eq_true (Nat.le_trans h.dp ha)⟩
theorem nice_all {a b : Nat} : ∀ {ds : List D}, (∀ d ∈ ds, Nice a b d) → PyData.canLayAll0 ds = true ∧ PyData.showableAll ds = true ∧ PyData.depthAll ds ≤ a ∧ piled (PyData.shownAll ds) ≤ ds.length * (b + 2) ∧ (PyData.shownAll ds).length = ds.length
  | [], _ => ⟨by simp [PyData.canLayAll0], by simp [PyData.showableAll], by simp [PyData.depthAll], by simp [PyData.shownAll, piled], by simp [PyData.shownAll]⟩
  | d :: ds, h => by
    obtain ⟨h1, h2, h3, h4, h5⟩ := nice_all (ds := ds) fun x hx => h x (List.mem_cons_of_mem _ hx)
    have hd := h d (List.mem_cons_self ..)
    refine ⟨?_, ?_, ?_, ?_, ?_⟩
    · simp [PyData.canLayAll0, hd.lay, h1]
    · simp [PyData.showableAll, hd.sh, h2]
    · simp only [PyData.depthAll]
      exact Nat.max_le.mpr ⟨hd.dp, h3⟩
    · have := hd.ln
      have e : (ds.length + 1) * (b + 2) = ds.length * (b + 2) + (b + 2) := by rw [Nat.add_mul, Nat.one_mul]
      rw [List.length_cons, e, PyData.shownAll, piled_cons]
      omega
    · simp [PyData.shownAll, h5]
theorem textFrom_up : ∀ (ts : List Str) (k : Nat) (acc : Str), (textFrom k acc ts).length ≤ acc.length + piled ts
  | [], k, acc => by show acc.length ≤ _; rw [piled_nil]; omega
  | t :: r, k, acc => by
    have h := textFrom_up r (k + 1) (acc ++ (if k > 0 then ", " else "" : String) ++ t)
    have e : (acc ++ (if k > 0 then ", " else "" : String) ++ t).length = acc.length + (if k > 0 then 2 else 0) + t.length := by
      rw [strLen_append, strLen_append]
      split <;> rfl
    rw [e] at h
    show (textFrom (k + 1) _ r).length ≤ _
    rw [piled_cons]
    have : (if k > 0 then 2 else 0 : Nat) ≤ 2 := by split <;> omega
    omega
theorem Nice.list {a b : Nat} {ds : List D} (h : ∀ d ∈ ds, Nice a b d) : Nice (a + 1) (ds.length * (b + 2) + 2) (.list ds) := by
  obtain ⟨h1, h2, h3, h4, h5⟩ := nice_all h
  refine ⟨by simpa [PyData.canLay0] using h1, by simpa [PyData.showable] using h2, by simp only [PyData.depth]; omega, ?_⟩
  have e : (PyData.shown (.list ds)) = listText (PyData.shownAll ds) := by simp only [PyData.shown]
  rw [e]
  unfold listText
  rw [strLen_append]
  have := textFrom_up (PyData.shownAll ds) 0 "["
  have e1 : (Str.ofString "[").length = 1 := rfl
  have e2 : (Str.ofString "]").length = 1 := rfl
  rw [e1] at this
  rw [e2]
  omega
theorem Nice.tuple {a b : Nat} {ds : List D} (h : ∀ d ∈ ds, Nice a b d) : Nice (a + 1) (ds.length * (b + 2) + 3) (.tuple ds) := by
  obtain ⟨h1, h2, h3, h4, h5⟩ := nice_all h
  refine ⟨by simpa [PyData.canLay0] using h1, by simpa [PyData.showable] using h2, by simp only [PyData.depth]; omega, ?_⟩
  have e : (PyData.shown (.tuple ds)) = tupleText (PyData.shownAll ds) := by simp only [PyData.shown]
  rw [e]
  unfold tupleText
  rw [strLen_append, strLen_append]
  have e1 : (Str.ofString "(").length = 1 := rfl
  have e2 : (Str.ofString (if (PyData.shownAll ds).length == 1 then ",)" else ")" : String)).length ≤ 2 := by
    split
    · exact Nat.le_refl 2
    · exact Nat.le_succ 1
  rw [e1]
  have h6 : (Str.join ", " (PyData.shownAll ds)).length ≤ piled (PyData.shownAll ds) := by
    by_cases q : PyData.shownAll ds = []
    · rw [q]
      exact Nat.le_refl 0
    · have := join_length_add _ q
      omega
  omega
theorem int_small : ∀ n < 3000, (Str.ofString (toString (Int.ofNat n))).length ≤ 4 := by decide +kernel
theorem Nice.int {i : Int} (h0 : 0 ≤ i) (h : i < 3000) : Nice 0 4 (.int i) := by
  obtain ⟨n, rfl⟩ := Int.eq_ofNat_of_zero_le h0
  have hn : n < 3000 := by omega
  refine ⟨rfl, ?_, by simp [PyData.depth], ?_⟩
  · simp only [PyData.showable]
    refine decide_eq_true ?_
    show n.log2 < 1920
    exact Nat.lt_of_le_of_lt (Nat.log2_le_self n) (by omega) |> fun h => by
      have h1 : n.log2 < 12 := by
        by_cases z : n = 0
        · subst z; decide
        · exact (Nat.log2_lt z).mpr (by omega)
      omega
  · simp only [PyData.shown]
    exact int_small n hn
theorem Nice.str {x : Str} {b : Nat} (h : PyData.canLay0 (.str x) = true) (hb : (reprText x).length ≤ b) : Nice 0 b (.str x) := ⟨h, by simp [PyData.showable], by simp [PyData.depth], by simpa [PyData.shown] using hb⟩
/-! ### small facts -/
theorem okMulL {i j : Int} (h0 : -9223372036854775808 < i) (h : i < 9223372036854775808) : okMul i j = true := by
  unfold okMul
  have h1 : decide (-(2 ^ 64) < i) = true := decide_eq_true (by omega)
  have h2 : decide (i < 2 ^ 64) = true := decide_eq_true (by omega)
  rw [h1, h2]
  rfl
theorem okMulR {i j : Int} (h0 : -9223372036854775808 < j) (h : j < 9223372036854775808) : okMul i j = true := by
  unfold okMul
  have h1 : decide (-(2 ^ 64) < j) = true := decide_eq_true (by omega)
  have h2 : decide (j < 2 ^ 64) = true := decide_eq_true (by omega)
  rw [h1, h2, Bool.or_eq_true]
  exact .inr rfl
theorem enumD_map {α : Type} {g : α → D} : ∀ (as : List α) (n : Nat), enumD n (as.map g) = (as.zipIdx n).map fun p => .tuple [.int p.2, g p.1]
  | [], n => rfl
  | a :: as, n => by rw [List.map_cons, enumD, enumD_map as (n + 1), List.zipIdx_cons, List.map_cons]
theorem lay_ints : ∀ ns : List Int, PyData.canLayAll0 (ns.map PyData.int) = true ∧ PyData.depthAll (ns.map PyData.int) = 0
  | [] => ⟨by simp [PyData.canLayAll0], by simp [PyData.depthAll]⟩
  | n :: ns => by
    obtain ⟨h1, h2⟩ := lay_ints ns
    exact ⟨by simp [PyData.canLayAll0, PyData.canLay0, h1], by simp [PyData.depthAll, PyData.depth, h2]⟩
theorem shaped_intsT (ns : List Int) : SeqAt.shaped (.tuple (ns.map PyData.int)) = true := by
  obtain ⟨h1, h2⟩ := lay_ints ns
  unfold SeqAt.shaped
  simp [PyData.canLay0, PyData.depth, h1, h2]
theorem shaped_intsL (ns : List Int) : SeqAt.shaped (.list (ns.map PyData.int)) = true := by
  obtain ⟨h1, h2⟩ := lay_ints ns
  unfold SeqAt.shaped
  simp [PyData.canLay0, PyData.depth, h1, h2]
theorem eqv_ints : ∀ ns : List Int, PyData.eqvAll (ns.map PyData.int) (ns.map PyData.int) = true
  | [] => by simp [PyData.eqvAll]
  | n :: ns => by simp [PyData.eqvAll, PyData.eqv, eqv_ints ns]
/-- a tuple of ints isn't unlike itself -/
theorem neIntsT (ns : List Int) : dCmpR .NotEq (.tuple (ns.map PyData.int)) (.tuple (ns.map PyData.int)) = some (.bool false, false) := by
  refine eCmp ?_
  show (dEq _ _).map _ = _
  unfold dEq
  rw [if_pos (by unfold okEq; rw [shaped_intsT ns]; simp)]
  have : PyData.eqv (.tuple (ns.map PyData.int)) (.tuple (ns.map PyData.int)) = true := by simp only [PyData.eqv]; exact eqv_ints ns
  rw [this]
  rfl
theorem dCmp_ne (a b : D) : dCmp .NotEq a b = (dEq a b).map (!·) := by cases a <;> cases b <;> rfl
theorem dCmp_eq (a b : D) : dCmp .Eq a b = dEq a b := by cases a <;> cases b <;> rfl
theorem neStr (x : Str) : dCmpR .NotEq (.str x) (.str x) = some (.bool false, false) := by
  refine eCmp ?_
  rw [dCmp_ne]
  unfold dEq
  rw [if_pos (by rfl)]
  have : PyData.eqv (.str x) (.str x) = true := by simp only [PyData.eqv]; exact beq_self_eq_true x
  rw [this]
  rfl
theorem eqStr (x y : Str) : dCmpR .Eq (.str x) (.str y) = some (.bool (x == y), false) := by
  refine eCmp ?_
  rw [dCmp_eq]
  unfold dEq
  rw [if_pos (by rfl)]
  simp only [PyData.eqv]
theorem eRepr {a b : Nat} {d : D} (h : Nice a b d) (ha : a ≤ 64) (hb : b ≤ sizeLine) : dBi .repr [d] = some (.str d.shown, false) := by
  show dRepr d = _
  unfold dRepr
  rw [if_pos (h.okShow ha hb)]
theorem take_min {α : Type} (ds : List α) (n : Nat) : ds.take (min n ds.length) = ds.take n := by
  by_cases h : n ≤ ds.length
  · rw [Nat.min_eq_left h]
  · rw [Nat.min_eq_right (by omega), List.take_of_length_le (Nat.le_refl _), List.take_of_length_le (by omega)]
theorem drop_min {α : Type} (ds : List α) (n : Nat) : ds.drop (min n ds.length) = ds.drop n := by
  by_cases h : n ≤ ds.length
  · rw [Nat.min_eq_left h]
  · rw [Nat.min_eq_right (by omega), List.drop_of_length_le (Nat.le_refl _), List.drop_of_length_le (by omega)]
theorem cutTake {ds : List D} (n : Nat) : cutD ds none (some (n : Int)) = ds.take n := by
  unfold cutD
  rw [HT.sIx_none, HT.sIx_nat, List.drop_zero, Nat.sub_zero, take_min]
theorem cutDrop {ds : List D} (n : Nat) : cutD ds (some (n : Int)) none = ds.drop n := by
  unfold cutD
  rw [HT.sIx_none, HT.sIx_nat, drop_min, List.take_of_length_le]
  rw [List.length_drop]
  omega
theorem cutMid {ds : List D} (n m : Nat) (h : n + m ≤ ds.length) : cutD ds (some (n : Int)) (some ((n + m : Nat) : Int)) = (ds.drop n).take m := by
  unfold cutD
  rw [HT.sIx_nat, HT.sIx_nat, Nat.min_eq_left h, Nat.min_eq_left (by omega), Nat.add_sub_cancel_left]
theorem szL {ds : List D} (h : Nat.ble ds.length 1000 = true) : ds.length ≤ sizeLine := Nat.le_trans (Nat.le_of_ble_eq_true h) (by decide)
end HC
set_option Elab.async false
set_option linter.all false
set_option maxRecDepth 100000
set_option maxHeartbeats 1000000
set_option autoImplicit false
/-! HC, part Q: more plain reasoning: membership of flat data, loops that check, slots by facts. -/
namespace HC
open PySem PySem.Spec PyProof.Rows L2
theorem any_strs (n : Str) : ∀ ns : List Str, ((ns.map PyData.str).any fun z => PyData.eqv z (.str n)) = ns.any fun x => x == n
  | [] => rfl
  | x :: ns => by
    rw [List.map_cons, List.any_cons, List.any_cons, any_strs n ns]
    simp only [PyData.eqv]
theorem flat_strs (ns : List Str) : (ns.map PyData.str).all flatD = true := by
  rw [List.all_eq_true]
  intro d hd
  obtain ⟨x, _, rfl⟩ := List.mem_map.mp hd
  rfl
theorem dIn_strsL (n : Str) (ns : List Str) : dIn (.str n) (.list (ns.map PyData.str)) = some (ns.any fun x => x == n) := by
  have h : flatD (.str n) = true ∧ (ns.map PyData.str).all flatD = true := ⟨rfl, flat_strs ns⟩
  simp only [dIn]
  rw [if_pos h, any_strs]
theorem dIn_strsT (n : Str) (ns : List Str) : dIn (.str n) (.tuple (ns.map PyData.str)) = some (ns.any fun x => x == n) := by
  have h : flatD (.str n) = true ∧ (ns.map PyData.str).all flatD = true := ⟨rfl, flat_strs ns⟩
  simp only [dIn]
  rw [if_pos h, any_strs]
theorem dCmp_in (a b : D) : dCmp .In a b = dIn a b := by cases a <;> cases b <;> rfl
theorem dCmp_nin (a b : D) : dCmp .NotIn a b = (dIn a b).map (!·) := by cases a <;> cases b <;> rfl
theorem inStrsL (n : Str) (ns : List Str) : dCmpR .In (.str n) (.list (ns.map PyData.str)) = some (.bool (ns.any fun x => x == n), false) := eCmp (by rw [dCmp_in, dIn_strsL])
theorem inStrsT (n : Str) (ns : List Str) : dCmpR .In (.str n) (.tuple (ns.map PyData.str)) = some (.bool (ns.any fun x => x == n), false) := eCmp (by rw [dCmp_in, dIn_strsT])
theorem ninStrsL (n : Str) (ns : List Str) : dCmpR .NotIn (.str n) (.list (ns.map PyData.str)) = some (.bool (!ns.any fun x => x == n), false) := eCmp (by rw [dCmp_nin, dIn_strsL]; rfl)
theorem ninStrsT (n : Str) (ns : List Str) : dCmpR .NotIn (.str n) (.tuple (ns.map PyData.str)) = some (.bool (!ns.any fun x => x == n), false) := eCmp (by rw [dCmp_nin, dIn_strsT]; rfl)
/-! ### loops -/
/-- a loop by an invariant that knows what is done -/
theorem eForD {α : Type} {f : α → D} {mi : ML} {asg : MG} {body : MS} {env e0 : Env} (P : List α → Env → Prop) (as : List α) (hi : mi env = some (as.map f, e0)) (h0 : P [] e0)
    (h : ∀ a done rest e, as = done ++ a :: rest → P done e → ∃ e1 e2, asg (f a) e = some e1 ∧ body e1 = some (.nx e2) ∧ P (done ++ [a]) e2) : ∃ e', mFor mi asg body env = some (.nx e') ∧ P as e' := by
  obtain ⟨e', h1, done, h2, h3⟩ := eFor (f := f) (mi := mi) (asg := asg) (body := body) (env := env) (e0 := e0) (fun rest e => ∃ done, as = done ++ rest ∧ P done e) as hi ⟨[], rfl, h0⟩ fun a rest e ⟨done, hd, hk⟩ => by
    obtain ⟨e1, e2, h3, h4, h5⟩ := h a done rest e hd hk
    exact ⟨e1, e2, h3, h4, done ++ [a], by rw [hd, List.append_assoc]; rfl, h5⟩
  rw [List.append_nil] at h2
  subst h2
  exact ⟨e', h1, h3⟩
/-- .. that checks each item -/
theorem eForC {α : Type} {f : α → D} {mi : ML} {asg : MG} {body : MS} {env e0 : Env} (P : Env → Prop) (as : List α) (hi : mi env = some (as.map f, e0)) (h0 : P e0)
    (h : ∀ a ∈ as, ∀ e, P e → ∃ e1 e2, asg (f a) e = some e1 ∧ body e1 = some (.nx e2) ∧ P e2) : ∃ e', mFor mi asg body env = some (.nx e') ∧ P e' :=
  eForD (fun _ => P) as hi h0 fun a done rest e hd hk => h a (by rw [hd]; simp) e hk
/-- a loop whose body may end the def at an item -/
theorem forLoop_rt {α : Type} {f : α → D} {asg : MG} {body : MS} {P : List α → Env → Prop} {p : α → Bool} {d : D} {fr : Bool} (h : ∀ a as e, P (a :: as) e → p a = true → ∃ e1 e2, asg (f a) e = some e1 ∧ body e1 = some (.nx e2) ∧ P as e2)
    (hr : ∀ a as e, P (a :: as) e → p a = false → ∃ e1, asg (f a) e = some e1 ∧ body e1 = some (.rt d fr)) :
    ∀ (as : List α) (env : Env), P as env → (as.all p = true → ∃ e', forLoop asg body (as.map f) env = some (.nx e') ∧ P [] e') ∧ (as.all p = false → forLoop asg body (as.map f) env = some (.rt d fr))
  | [], env, h0 => ⟨fun _ => ⟨env, rfl, h0⟩, fun h => by cases h⟩
  | a :: as, env, h0 => by
    cases q : p a with
    | true =>
      obtain ⟨e1, e2, h1, h2, h3⟩ := h a as env h0 q
      obtain ⟨g1, g2⟩ := forLoop_rt h hr as e2 h3
      refine ⟨fun z => ?_, fun z => ?_⟩
      · rw [List.all_cons, q, Bool.true_and] at z
        obtain ⟨e', h4, h5⟩ := g1 z
        exact ⟨e', by simp only [List.map_cons, forLoop, h1, h2, h4], h5⟩
      · rw [List.all_cons, q, Bool.true_and] at z
        simp only [List.map_cons, forLoop, h1, h2, g2 z]
    | false =>
      obtain ⟨e1, h1, h2⟩ := hr a as env h0 q
      refine ⟨fun z => ?_, fun z => ?_⟩
      · rw [List.all_cons, q] at z
        cases z
      · simp only [List.map_cons, forLoop, h1, h2]
/-- for x in xs: .. if not p(x): return d; .. -/
theorem eForR {α : Type} {f : α → D} {mi : ML} {asg : MG} {body : MS} {env e0 : Env} (P : List α → Env → Prop) (p : α → Bool) {d : D} {fr : Bool} (as : List α) (hi : mi env = some (as.map f, e0)) (h0 : P [] e0)
    (h : ∀ a done rest e, as = done ++ a :: rest → done.all p = true → P done e → p a = true → ∃ e1 e2, asg (f a) e = some e1 ∧ body e1 = some (.nx e2) ∧ P (done ++ [a]) e2)
    (hr : ∀ a done rest e, as = done ++ a :: rest → done.all p = true → P done e → p a = false → ∃ e1, asg (f a) e = some e1 ∧ body e1 = some (.rt d fr)) :
    (as.all p = true → ∃ e', mFor mi asg body env = some (.nx e') ∧ P as e') ∧ (as.all p = false → mFor mi asg body env = some (.rt d fr)) := by
  obtain ⟨g1, g2⟩ := forLoop_rt (f := f) (asg := asg) (body := body) (p := p) (d := d) (fr := fr) (P := fun rest e => ∃ done, as = done ++ rest ∧ done.all p = true ∧ P done e)
    (fun a rest e ⟨done, hd, hp, hk⟩ q => by
      obtain ⟨e1, e2, h3, h4, h5⟩ := h a done rest e hd hp hk q
      exact ⟨e1, e2, h3, h4, done ++ [a], by rw [hd, List.append_assoc]; rfl, by rw [List.all_append, hp]; simp [q], h5⟩)
    (fun a rest e ⟨done, hd, hp, hk⟩ q => hr a done rest e hd hp hk q) as e0 ⟨[], rfl, rfl, h0⟩
  have e : mFor mi asg body env = forLoop asg body (as.map f) e0 := by
    unfold mFor
    rw [hi]
  rw [e]
  refine ⟨fun z => ?_, g2⟩
  obtain ⟨e', h1, done, h2, _, h3⟩ := g1 z
  rw [List.append_nil] at h2
  subst h2
  exact ⟨e', h1, h3⟩
/-! ### destructuring -/
theorem len1 {α : Type} {n : Nat} {e : List α} (h : e.length = n + 1) : ∃ a r, e = a :: r ∧ r.length = n := by
  cases e with
  | nil => cases h
  | cons a r => exact ⟨a, r, rfl, by simpa using h⟩
theorem len0 {α : Type} {e : List α} (h : e.length = 0) : e = [] := List.length_eq_zero_iff.mp h
/-! ### sets of keys -/
theorem keys_strs : ∀ ns : List Str, keysOf (ns.map PyData.str) = some (ns.map Sum.inr)
  | [] => rfl
  | n :: ns => by
    rw [List.map_cons]
    simp only [keysOf, keyOf, keys_strs ns, List.map_cons]
theorem memK_iff {us : List Key} {k : Key} : memK us k = true ↔ k ∈ us := by
  unfold memK
  rw [List.any_eq_true]
  exact ⟨fun ⟨x, h, e⟩ => by cases of_decide_eq_true e; exact h, fun h => ⟨k, h, decide_eq_true rfl⟩⟩
theorem uniq_nodup : ∀ (ks us : List Key), us.Nodup → ((uniq us ks).length = us.length + ks.length ↔ (us ++ ks).Nodup)
  | [], us, h => by simp [uniq, h]
  | k :: ks, us, h => by
    simp only [uniq]
    split
    · rename_i hm
      have hl := uniq_len ks us
      have hk := memK_iff.mp hm
      refine ⟨fun q => ?_, fun q => ?_⟩
      · rw [List.length_cons] at q
        omega
      · exact absurd rfl ((List.nodup_append.mp q).2.2 k hk k (by simp))
    · rename_i hm
      have hk : k ∉ us := fun z => hm (memK_iff.mpr z)
      have hn : (us ++ [k]).Nodup := by
        rw [List.nodup_append]
        exact ⟨h, by simp, fun a ha b hb => by cases List.mem_singleton.mp hb; exact fun e => hk (e ▸ ha)⟩
      have ih := uniq_nodup ks (us ++ [k]) hn
      rw [List.length_append, List.length_singleton, List.append_assoc] at ih
      rw [List.length_cons, show us.length + (ks.length + 1) = us.length + 1 + ks.length by omega]
      exact ih
def distB : List Str → Bool
  | [] => true
  | n :: ns => !(ns.any fun x => x == n) && distB ns
theorem distB_iff : ∀ ns : List Str, distB ns = true ↔ ns.Nodup
  | [] => by simp [distB]
  | n :: ns => by
    simp only [distB, Bool.and_eq_true, distB_iff ns, List.nodup_cons]
    refine and_congr_left fun _ => ?_
    rw [Bool.not_eq_true', ← Bool.not_eq_true, List.any_eq_true]
    exact not_congr ⟨fun ⟨x, h, e⟩ => by cases eq_of_beq e; exact h, fun h => ⟨n, h, beq_self_eq_true n⟩⟩
theorem uniq_strs (ns : List Str) : decide ((uniq [] (ns.map Sum.inr)).length = ns.length) = distB ns := by
  have h := uniq_nodup (ns.map Sum.inr) [] (by simp)
  rw [List.length_map, List.length_nil, Nat.zero_add, List.nil_append] at h
  rw [Bool.eq_iff_iff, decide_eq_true_iff, h, distB_iff]
  refine ⟨fun q => ?_, fun q => ?_⟩
  · exact (List.pairwise_map.mp q).imp fun h e => h (congrArg _ e)
  · exact List.pairwise_map.mpr (q.imp fun h e => h (Sum.inr.inj e))
/-- none stands ahead of itself -/
theorem dist_pre (ns : List Str) : distB ns = true ↔ ∀ a n b, ns = a ++ n :: b → (a.any fun x => x == n) = false := by
  rw [distB_iff]
  refine ⟨fun h a n b e => ?_, fun h => ?_⟩
  · subst e
    rw [← Bool.not_eq_true, List.any_eq_true]
    intro ⟨x, hx, z⟩
    cases eq_of_beq z
    exact (List.nodup_append.mp h).2.2 n hx n (by simp) rfl
  · rw [List.nodup_iff_pairwise_ne, List.pairwise_iff_getElem]
    intro i j hi hj hij e
    have q := h (ns.take j) ns[j] (ns.drop (j + 1)) (by rw [← List.drop_eq_getElem_cons hj, List.take_append_drop])
    rw [← Bool.not_eq_true, List.any_eq_true] at q
    refine q ⟨ns[i], ?_, by rw [e]; exact beq_self_eq_true _⟩
    rw [List.mem_take_iff_getElem]
    exact ⟨i, by omega, rfl⟩
/-! ### what repr shows, by a bound -/
mutual
def wsz : D → Nat
  | .none => 4
  | .bool _ => 5
  | .int i => (toString i : Str).length
  | .str x => (reprText x).length
  | .list ds => wszs ds + 2
  | .tuple ds => wszs ds + 3
  | .dict [] => 2
  | .dict _ => 1000000000
def wszs : List D → Nat
  | [] => 0
  | d :: ds => wsz d + 2 + wszs ds
end
mutual
theorem wsz_ok : ∀ d : D, wsz d < 1000000000 → d.shown.length ≤ wsz d
  | .none, _ => by simp only [PyData.shown, wsz]; decide
  | .bool b, _ => by cases b <;> (simp only [PyData.shown, wsz]; decide)
  | .int i, _ => by simp only [PyData.shown, wsz]; exact Nat.le_refl _
  | .str x, _ => by simp only [PyData.shown, wsz]; exact Nat.le_refl _
  | .list ds, h => by
    simp only [wsz] at h ⊢
    have h2 := (wszs_ok ds (by omega)).1
    have e : (PyData.shown (.list ds)) = listText (PyData.shownAll ds) := by simp only [PyData.shown]
    rw [e]
    unfold listText
    rw [strLen_append]
    have := textFrom_up (PyData.shownAll ds) 0 "["
    have e1 : (Str.ofString "[").length = 1 := rfl
    have e2 : (Str.ofString "]").length = 1 := rfl
    rw [e1] at this
    rw [e2]
    omega
  | .tuple ds, h => by
    simp only [wsz] at h ⊢
    have h2 := (wszs_ok ds (by omega)).1
    have e : (PyData.shown (.tuple ds)) = tupleText (PyData.shownAll ds) := by simp only [PyData.shown]
    rw [e]
    unfold tupleText
    rw [strLen_append, strLen_append]
    have e1 : (Str.ofString "(").length = 1 := rfl
    have e2 : (Str.ofString (if (PyData.shownAll ds).length == 1 then ",)" else ")" : String)).length ≤ 2 := by
      split
      · exact Nat.le_refl 2
      · exact Nat.le_succ 1
    rw [e1]
    have h6 : (Str.join ", " (PyData.shownAll ds)).length ≤ piled (PyData.shownAll ds) := by
      by_cases q : PyData.shownAll ds = []
      · rw [q]
        exact Nat.le_refl 0
      · have := join_length_add _ q
        omega
    omega
  | .dict [], _ => by simp only [PyData.shown, wsz]; decide
  | .dict (_ :: _), h => by simp only [wsz] at h; omega
theorem wszs_ok : ∀ ds : List D, wszs ds < 1000000000 → piled (PyData.shownAll ds) ≤ wszs ds ∧ True
  | [], _ => ⟨by simp [PyData.shownAll, piled], trivial⟩
  | d :: ds, h => by
    simp only [wszs] at h ⊢
    have h1 := wsz_ok d (by omega)
    have h2 := (wszs_ok ds (by omega)).1
    rw [PyData.shownAll, piled_cons]
    exact ⟨by omega, trivial⟩
end
/-- data that repr shows within a, at most b signs -/
structure Shw (a b : Nat) (d : D) : Prop where
  sh : d.showable = true
  dp : d.depth ≤ a
  ws : wsz d ≤ b
theorem Shw.ok {a b : Nat} {d : D} (h : Shw a b d) (ha : a ≤ 64) (hb : b ≤ 10000000) : okShow d = true := by
  unfold HC.okShow
  rw [h.sh, Bool.true_and, Bool.and_eq_true]
  have h1 := wsz_ok d (by have := h.ws; omega)
  have h2 := h.ws
  have h3 := sizeLine_eq
  exact ⟨decide_eq_true (by omega), decide_eq_true (Nat.le_trans h.dp ha)⟩
theorem Shw.repr {a b : Nat} {d : D} (h : Shw a b d) (ha : a ≤ 64) (hb : b ≤ 10000000) : dBi .repr [d] = some (.str d.shown, false) := by
  show dRepr d = _
  unfold dRepr
  rw [if_pos (h.ok ha hb)]
theorem Shw.mono {a b a' b' : Nat} {d : D} (h : Shw a b d) (h1 : a ≤ a') (h2 : b ≤ b') : Shw a' b' d := ⟨h.sh, Nat.le_trans h.dp h1, Nat.le_trans h.ws h2⟩
structure Shws (a b : Nat) (ds : List D) : Prop where
  sh : PyData.showableAll ds = true
  dp : PyData.depthAll ds ≤ a
  ws : wszs ds ≤ b
theorem Shws.nil {a b : Nat} : Shws a b [] := ⟨by simp [PyData.showableAll], by simp [PyData.depthAll], by simp [wszs]⟩
theorem Shws.cons {a b c : Nat} {d : D} {ds : List D} (h : Shw a b d) (t : Shws a c ds) : Shws a (b + 2 + c) (d :: ds) :=
  ⟨by simp [PyData.showableAll, h.sh, t.sh], by simp only [PyData.depthAll]; exact Nat.max_le.mpr ⟨h.dp, t.dp⟩, by have := h.ws; have := t.ws; simp only [wszs]; omega⟩
theorem Shws.app {a b c : Nat} : ∀ {ds es : List D}, Shws a b ds → Shws a c es → Shws a (b + c) (ds ++ es)
  | [], es, h, t => ⟨t.sh, t.dp, by have := t.ws; show wszs es ≤ _; omega⟩
  | d :: ds, es, h, t => by
    have hs := h.sh
    have hd := h.dp
    have hw := h.ws
    simp only [PyData.showableAll, Bool.and_eq_true] at hs
    simp only [PyData.depthAll] at hd
    simp only [wszs] at hw
    have r := Shws.app (a := a) (b := b - (wsz d + 2)) (c := c) (ds := ds) (es := es) ⟨hs.2, by omega, by omega⟩ t
    refine ⟨?_, ?_, ?_⟩
    · simp only [List.cons_append, PyData.showableAll, hs.1, r.sh, Bool.and_self]
    · simp only [List.cons_append, PyData.depthAll]
      have := r.dp
      omega
    · simp only [List.cons_append, wszs]
      have := r.ws
      omega
theorem Shws.all {a b : Nat} : ∀ {ds : List D}, (∀ d ∈ ds, Shw a b d) → Shws a (ds.length * (b + 2)) ds
  | [], _ => .nil
  | d :: ds, h => by
    have r := Shws.cons (h d (List.mem_cons_self ..)) (Shws.all (ds := ds) fun x hx => h x (List.mem_cons_of_mem _ hx))
    refine ⟨r.sh, r.dp, Nat.le_trans r.ws ?_⟩
    rw [List.length_cons, Nat.add_mul, Nat.one_mul]
    omega
theorem Shws.mono {a b a' b' : Nat} {ds : List D} (h : Shws a b ds) (h1 : a ≤ a') (h2 : b ≤ b') : Shws a' b' ds := ⟨h.sh, Nat.le_trans h.dp h1, Nat.le_trans h.ws h2⟩
theorem Shw.list {a b : Nat} {ds : List D} (h : Shws a b ds) : Shw (a + 1) (b + 2) (.list ds) := ⟨by simpa [PyData.showable] using h.sh, by simp only [PyData.depth]; have := h.dp; omega, by simp only [wsz]; have := h.ws; omega⟩
theorem Shw.tuple {a b : Nat} {ds : List D} (h : Shws a b ds) : Shw (a + 1) (b + 3) (.tuple ds) := ⟨by simpa [PyData.showable] using h.sh, by simp only [PyData.depth]; have := h.dp; omega, by simp only [wsz]; have := h.ws; omega⟩
theorem Shw.str {x : Str} {b : Nat} (hb : (reprText x).length ≤ b) : Shw 0 b (.str x) := ⟨by simp [PyData.showable], by simp [PyData.depth], by simpa [wsz] using hb⟩
theorem Shw.int {i : Int} (h0 : 0 ≤ i) (h : i < 3000) : Shw 0 4 (.int i) := by
  have n := Nice.int h0 h
  refine ⟨n.sh, n.dp, ?_⟩
  have := n.ln
  simpa [PyData.shown, wsz] using this
theorem Shw.of_nice {a b : Nat} {d : D} (h : wsz d ≤ b) (hs : d.showable = true) (hd : d.depth ≤ a) : Shw a b d := ⟨hs, hd, h⟩
/-! ### comparisons of numbers and texts, as rules -/
theorem cEqII (i j : Int) : dCmpR .Eq (.int i) (.int j) = some (.bool (decide (i = j)), false) := eCmp (by
  rw [dCmp_eq]; unfold dEq; rw [if_pos (by rfl)]; simp only [PyData.eqv]
  by_cases h : i = j
  · subst h; simp
  · rw [decide_eq_false h]; simp [h])
theorem cNeII (i j : Int) : dCmpR .NotEq (.int i) (.int j) = some (.bool (!decide (i = j)), false) := eCmp (by
  rw [dCmp_ne]; unfold dEq; rw [if_pos (by rfl)]; simp only [PyData.eqv]
  by_cases h : i = j
  · subst h; simp
  · rw [decide_eq_false h]; simp [h])
theorem cEqSS (x y : Str) : dCmpR .Eq (.str x) (.str y) = some (.bool (x == y), false) := eqStr x y
theorem cNeSS (x y : Str) : dCmpR .NotEq (.str x) (.str y) = some (.bool (!(x == y)), false) := eCmp (by
  rw [dCmp_ne]; unfold dEq; rw [if_pos (by rfl)]; simp only [PyData.eqv]; rfl)
theorem cLtII (i j : Int) : dCmpR .Lt (.int i) (.int j) = some (.bool (decide (i < j)), false) := rfl
theorem cLeII (i j : Int) : dCmpR .LtE (.int i) (.int j) = some (.bool (decide (i ≤ j)), false) := rfl
theorem cGtII (i j : Int) : dCmpR .Gt (.int i) (.int j) = some (.bool (decide (j < i)), false) := rfl
theorem cGeII (i j : Int) : dCmpR .GtE (.int i) (.int j) = some (.bool (decide (j ≤ i)), false) := rfl
theorem cLtII' (i j : Int) : dCmp .Lt (.int i) (.int j) = some (decide (i < j)) := rfl
theorem cLeII' (i j : Int) : dCmp .LtE (.int i) (.int j) = some (decide (i ≤ j)) := rfl
theorem bAdd (i j : Int) : dBin .Add (.int i) (.int j) = some (.int (i + j), false) := rfl
theorem bSub (i j : Int) : dBin .Sub (.int i) (.int j) = some (.int (i - j), false) := rfl
theorem ixT0 (a : D) (r : List D) : dIx (.tuple (a :: r)) (.int 0) = some (a, false) := eIxT (j := 0) rfl
theorem ixL0 (a : D) (r : List D) : dIx (.list (a :: r)) (.int 0) = some (a, false) := eIxL (j := 0) rfl
theorem ixT1 (a b : D) (r : List D) : dIx (.tuple (a :: b :: r)) (.int 1) = some (b, false) := eIxT (j := 1) rfl
theorem ixL1 (a b : D) (r : List D) : dIx (.list (a :: b :: r)) (.int 1) = some (b, false) := eIxL (j := 1) rfl
theorem ixT2 (a b c : D) (r : List D) : dIx (.tuple (a :: b :: c :: r)) (.int 2) = some (c, false) := eIxT (j := 2) rfl
theorem ixL2 (a b c : D) (r : List D) : dIx (.list (a :: b :: c :: r)) (.int 2) = some (c, false) := eIxL (j := 2) rfl
theorem ixT3 (a b c d : D) (r : List D) : dIx (.tuple (a :: b :: c :: d :: r)) (.int 3) = some (d, false) := eIxT (j := 3) rfl
theorem ixD (ds : List Int) (j : Nat) (x : Int) (h : ds[j]? = some x) : dIx (.list (ds.map PyData.int)) (.int j) = some (.int x, false) := eIxL (by rw [List.getElem?_map, h]; rfl)
theorem biLenL (ds : List D) : dBi .len [.list ds] = some (.int ds.length, false) := rfl
theorem biLenT (ds : List D) : dBi .len [.tuple ds] = some (.int ds.length, false) := rfl
theorem sbool (b : Bool) : (if b = true then some true else some false : Option Bool) = some b := by cases b <;> rfl
theorem isoT (d : D) : dIsaR .tuple d = some (.bool (dIsa .tuple d), false) := rfl
/-! ### comprehensions -/
theorem lcMapD {inn : Env} {asg : MG} {tt : MT} {te : MV} {ds : List D} (g : D → D) (h : ∀ d ∈ ds, lc1 inn asg tt te d = some (some (g d))) : lcLoop inn asg tt te ds = some (ds.map g) := by
  have := lcLoop_map (f := fun d : D => d) (g := g) (inn := inn) (asg := asg) (tt := tt) (te := te) (as := ds) h
  rwa [List.map_id'] at this
theorem lcMapA {α : Type} {f : α → D} {inn : Env} {asg : MG} {tt : MT} {te : MV} {as : List α} (g : α → D) (h : ∀ a ∈ as, lc1 inn asg tt te (f a) = some (some (g a))) : lcLoop inn asg tt te (as.map f) = some (as.map g) := lcLoop_map h
theorem lcFmA {α : Type} {f : α → D} {inn : Env} {asg : MG} {tt : MT} {te : MV} {as : List α} (g : α → Option D) (h : ∀ a ∈ as, lc1 inn asg tt te (f a) = some (g a)) : lcLoop inn asg tt te (as.map f) = some (as.filterMap g) := lcLoop_fm h
theorem asBools_map {α : Type} (f : α → Bool) : ∀ as : List α, asBools (as.map fun a => PyData.bool (f a)) = some (as.map f)
  | [] => rfl
  | a :: as => by
    rw [List.map_cons]
    simp only [asBools, asBools_map f as]
    rfl
theorem biAll {α : Type} (f : α → Bool) (as : List α) : dBi .all [.list (as.map fun a => PyData.bool (f a))] = some (.bool (as.all f), false) := by
  simp only [dBi, asBools_map, List.all_map]
  rfl
theorem biAny {α : Type} (f : α → Bool) (as : List α) : dBi .any [.list (as.map fun a => PyData.bool (f a))] = some (.bool (as.any f), false) := by
  simp only [dBi, asBools_map, List.any_map]
  rfl
/-! ### dicts with text keys -/
def sDict {α : Type} (k : α → Str) (v : α → D) (as : List α) : List (D × D) := as.map fun a => (.str (k a), v a)
theorem sGet {α : Type} (k : α → Str) (v : α → D) (n : Str) : ∀ as : List α, dGet (sDict k v as) (.inr n) = (as.find? fun a => k a == n).map v
  | [] => rfl
  | a :: as => by
    have ih := sGet k v n as
    unfold dGet sDict at ih ⊢
    rw [List.map_cons, List.find?_cons, List.find?_cons]
    by_cases h : k a = n
    · subst h
      simp only [keyOf, decide_true, beq_self_eq_true, Option.map_some]
    · have e : decide ((Sum.inr (k a) : Key) = Sum.inr n) = false := decide_eq_false fun z => h (Sum.inr.inj z)
      have e2 : (k a == n) = false := by
        cases q : (k a == n) with
        | false => rfl
        | true => exact absurd (eq_of_beq q) h
      simp only [keyOf, e, e2]
      exact ih
theorem pairs_s {α : Type} (k : α → Str) (v : α → D) : ∀ as : List α, pairsOf (as.map fun a => PyData.tuple [.str (k a), v a]) = some (as.map fun a => (.inr (k a), v a))
  | [] => rfl
  | a :: as => by
    rw [List.map_cons]
    simp only [pairsOf, keyOf, pairs_s k v as, List.map_cons]
theorem merge_s {α : Type} (k : α → Str) (v : α → D) : ∀ (as acc : List α), ((acc ++ as).map k).Nodup → dMerge (sDict k v acc) (as.map fun a => (.inr (k a), v a)) = sDict k v (acc ++ as)
  | [], acc, _ => by rw [List.append_nil]; rfl
  | a :: as, acc, h => by
    rw [List.map_cons]
    simp only [dMerge]
    have hn : (dGet (sDict k v acc) (.inr (k a))).isSome = false := by
      rw [sGet]
      cases q : acc.find? (fun b => k b == k a) with
      | none => rfl
      | some b =>
        have hb := List.mem_of_find?_eq_some q
        have hk : k b = k a := eq_of_beq (List.find?_some (p := fun b => k b == k a) q)
        rw [List.map_append] at h
        exact absurd hk ((List.nodup_append.mp h).2.2 (k b) (List.mem_map_of_mem hb) (k a) (by simp))
    have e : dPut (sDict k v acc) (.inr (k a)) (v a) = sDict k v (acc ++ [a]) := by
      unfold dPut
      rw [hn, if_neg (by decide)]
      unfold sDict
      rw [List.map_append]
      rfl
    rw [e, merge_s k v as (acc ++ [a]) (by rw [List.append_assoc]; exact h), List.append_assoc]
    rfl
theorem dict_s {α : Type} (k : α → Str) (v : α → D) (as : List α) (h : (as.map k).Nodup) : dDict [.list (as.map fun a => PyData.tuple [.str (k a), v a])] = some (.dict (sDict k v as), true) := by
  simp only [dDict, pairs_s]
  have := merge_s k v as [] h
  rw [List.nil_append] at this
  have e : sDict k v ([] : List α) = [] := rfl
  rw [e] at this
  rw [this]
theorem ixDict {ds : List (D × D)} {n : Str} {d : D} (h : dGet ds (.inr n) = some d) : dIx (.dict ds) (.str n) = some (d, false) := by
  simp only [dIx, keyOf, h]
theorem inDict (ds : List (D × D)) (n : Str) : dCmpR .In (.str n) (.dict ds) = some (.bool (dGet ds (.inr n)).isSome, false) := eCmp (by rw [dCmp_in]; simp only [dIn, keyOf])
theorem ninDict (ds : List (D × D)) (n : Str) : dCmpR .NotIn (.str n) (.dict ds) = some (.bool (!(dGet ds (.inr n)).isSome), false) := eCmp (by rw [dCmp_nin]; simp only [dIn, keyOf]; rfl)
theorem enumD_zip (ds : List D) (n : Nat) : enumD n ds = (ds.zipIdx n).map fun p => .tuple [.int p.2, p.1] := by
  have := enumD_map (g := fun d : D => d) ds n
  rwa [List.map_id'] at this
theorem zipIdx_at {α : Type} {ds : List α} {done rest : List (α × Nat)} {p : α × Nat} (h : ds.zipIdx = done ++ p :: rest) : p.2 = done.length ∧ ds = done.map (·.1) ++ p.1 :: rest.map (·.1) := by
  have e : ds = (ds.zipIdx).map (·.1) := by rw [List.zipIdx_map_fst]
  constructor
  · have hl : done.length < ds.length := by
      have := congrArg List.length h
      rw [List.length_zipIdx, List.length_append, List.length_cons] at this
      omega
    have h1 : (ds.zipIdx)[done.length]? = some p := by rw [h, List.getElem?_append_right (Nat.le_refl _), Nat.sub_self]; rfl
    rw [List.getElem?_zipIdx] at h1
    cases q : ds[done.length]? with
    | none => rw [q] at h1; cases h1
    | some d =>
      rw [q] at h1
      cases h1
      simp
  · rw [h, List.map_append, List.map_cons] at e
    exact e
/-! ### more rules -/
theorem bAddL (xs ys : List D) (h : xs.length + ys.length ≤ 16777216) : dBin .Add (.list xs) (.list ys) = some (.list (xs ++ ys), true) := if_pos h
theorem bAddT (xs ys : List D) (h : xs.length + ys.length ≤ 16777216) : dBin .Add (.tuple xs) (.tuple ys) = some (.tuple (xs ++ ys), false) := if_pos h
theorem bMod (i j : Int) (h : 0 < j) : dBin .Mod (.int i) (.int j) = some (.int (i % j), false) := if_pos h
theorem bNeg (i : Int) : dNeg (.int i) = some (.int (-i), false) := rfl
theorem biList (ds : List D) : dBi .list [.list ds] = some (.list ds, true) := rfl
theorem biListT (ds : List D) : dBi .list [.tuple ds] = some (.list ds, true) := rfl
theorem biTup (ds : List D) : dBi .tuple [.list ds] = some (.tuple ds, false) := rfl
theorem biTupT (ds : List D) : dBi .tuple [.tuple ds] = some (.tuple ds, false) := rfl
theorem biMax (i j : Int) : dBi .max [.int i, .int j] = some (.int (if j > i then j else i), false) := rfl
theorem isnB (a b : Bool) : dCmpR .IsNot (.bool a) (.bool b) = some (.bool (!decide (a = b)), false) := rfl
theorem isB (a b : Bool) : dCmpR .Is (.bool a) (.bool b) = some (.bool (decide (a = b)), false) := rfl
theorem ixMod {ds : List D} {i : Int} (h : 0 < ds.length) : ∃ d, d ∈ ds ∧ ds[(i % (ds.length : Int)).toNat]? = some d ∧ dIx (.list ds) (.int (i % (ds.length : Int))) = some (d, false) := by
  have h1 : (0 : Int) ≤ i % (ds.length : Int) := Int.emod_nonneg _ (by omega)
  have h2 : i % (ds.length : Int) < ds.length := Int.emod_lt_of_pos _ (by omega)
  obtain ⟨j, hj⟩ := Int.eq_ofNat_of_zero_le h1
  rw [hj] at h2 ⊢
  have hl : j < ds.length := by omega
  refine ⟨ds[j], List.getElem_mem _, ?_, eIxL (List.getElem?_eq_getElem hl)⟩
  rw [Int.toNat_natCast]
  exact List.getElem?_eq_getElem hl
theorem ixLast {ds : List D} {d : D} (h : ds.getLast? = some d) : dIx (.list ds) (.int (-1)) = some (d, false) := by
  have hn : ds ≠ [] := fun z => by rw [z] at h; cases h
  have hl : 0 < ds.length := List.length_pos_iff.mpr hn
  have e : atI ds (-1) = some d := by
    unfold atI ixN
    rw [if_neg (by decide), if_pos (by omega)]
    rw [List.getLast?_eq_getElem?] at h
    show ds[((-1 : Int) + (ds.length : Int)).toNat]? = _
    rw [← h, show ((-1 : Int) + (ds.length : Int)).toNat = ds.length - 1 by omega]
  simp only [dIx, e]
/-- data that repr shows, looked at -/
def shwB (a b : Nat) (d : D) : Bool := d.showable && (decide (d.depth ≤ a) && decide (wsz d ≤ b))
theorem Shw.of_b {a b : Nat} {d : D} (h : shwB a b d = true) : Shw a b d := by
  unfold shwB at h
  rw [Bool.and_eq_true, Bool.and_eq_true] at h
  exact ⟨h.1, of_decide_eq_true h.2.1, of_decide_eq_true h.2.2⟩
/-- the odd things -/
def oddL : List D := [.none, .bool true, .bool false, .str "", .str "a", .int 5, .int (-1), .tuple [], .list [], .dict [], .tuple [.str "a"], .list [.tuple [.str "a", .int 2, .str "real"]], .tuple [.str "yes"], .int 1000000000000000000000000000000, .str "among", .tuple [.int 0]]
theorem oddL_shw {o : D} (h : o ∈ oddL) : Shw 2 40 o := by
  have : oddL.all (shwB 2 40) = true := by decide +kernel
  exact .of_b (List.all_eq_true.mp this o h)
theorem Shw.pair {a b c : Nat} {x y : D} (h : Shw a b x) (h2 : Shw a c y) : Shw (a + 1) (b + c + 7) (.tuple [x, y]) :=
  (Shw.tuple (Shws.cons h (Shws.cons h2 (Shws.nil (b := 0))))).mono (Nat.le_refl _) (by omega)
theorem Shw.one {a b : Nat} {x : D} (h : Shw a b x) : Shw (a + 1) (b + 5) (.tuple [x]) :=
  (Shw.tuple (Shws.cons h (Shws.nil (b := 0)))).mono (Nat.le_refl _) (by omega)
theorem Shw.pairL {a b c : Nat} {x y : D} (h : Shw a b x) (h2 : Shw a c y) : Shw (a + 1) (b + c + 7) (.list [x, y]) :=
  (Shw.list (Shws.cons h (Shws.cons h2 (Shws.nil (b := 0))))).mono (Nat.le_refl _) (by omega)
theorem Shw.of_niceS {b : Nat} {x : Str} (h : Nice 0 b (.str x)) : Shw 0 b (.str x) := .str (by have := h.ln; simpa [PyData.shown] using this)
/-! ### a law's outer loop -/
def cells (N : Nat) (ns : List Int) : List Int := ns.take N ++ (if ns.isEmpty = true then [7] else [])
abbrev iCells (N : Int) : ML := (miEnum (lS [(ev2 (mSl (mVar 0) none (some (mConst (.int N)))) (ev2 (mLst (lS [(mConst (.int 7))])) (mBi .int (lR [(ev2 (mVar 0) (mLst (lS [])) (dCmpR .Eq))])) (dBin .Mult)) (dBin .Add))]))
theorem toLs {m : MV} {env e : Env} {k : Kd} {v x : List D} (h : m env = some (.list v, k, e)) (hv : v = x) : m env = some (.list x, k, e) := by rw [h, hv]
theorem cells_len (N : Nat) (ns : List Int) : (cells N ns).length ≤ N + 1 := by
  unfold cells
  rw [List.length_append, List.length_take]
  have : (if ns.isEmpty = true then [(7 : Int)] else []).length ≤ 1 := by split <;> simp
  omega
theorem it_cells (N : Nat) (hN : N ≤ 1000) (ns : List Int) (r : List (Option Sl)) : iCells N (some ⟨.list (ns.map PyData.int), false⟩ :: r) = some ((cells N ns).zipIdx.map fun p => .tuple [.int p.2, .int p.1], some ⟨.list (ns.map PyData.int), false⟩ :: r) := by
  rw [← enumD_map (g := PyData.int) (cells N ns) 0]
  have hcut : cutD (ns.map PyData.int) none (some (N : Int)) = (ns.take N).map PyData.int := by rw [cutTake, List.map_take]
  have heq : dCmpR .Eq (.list (ns.map PyData.int)) (.list []) = some (.bool ns.isEmpty, false) := by
    refine eCmp ?_
    rw [dCmp_eq]
    unfold dEq
    rw [if_pos (by unfold okEq; rw [shaped_intsL ns, show SeqAt.shaped (.list []) = true from shaped_intsL []]; simp)]
    cases ns with
    | nil => rfl
    | cons n ns => rfl
  have hmul : dBin .Mult (.list [.int 7]) (.int (if ns.isEmpty = true then 1 else 0)) = some (.list ((if ns.isEmpty = true then [7] else []).map PyData.int), true) := by
    cases ns with
    | nil => rfl
    | cons n ns => rfl
  refine eItE (eS (toLs (eV2 (toLs (eSlc (eVarS rfl) ePn (ePart eCon) rfl) hcut) (eV2 (eLst (eS eCon eSn) (szL rfl)) (eBi (eR (eV2 (eVarS rfl) (eLst eSn (szL rfl)) heq) eRn) rfl) hmul) (eAddL ?_)) (show _ = (cells N ns).map PyData.int from by unfold cells; rw [List.map_append])) eSn)
  rw [List.length_map, List.length_map, List.length_take]
  have : (if ns.isEmpty = true then [(7 : Int)] else []).length ≤ 1 := by split <;> simp
  have h2 := sizeLine_eq
  have h3 := Nat.min_le_left N ns.length
  omega
/-- for k, cell in enumerate(script[:N] + ..): body; then what is left -/
theorem lawLoop (N : Nat) (hN : N ≤ 1000) (ns : List Int) {n : Nat} (body : MS) (r : List (Option Sl)) (hr : r.length = n + 2)
    (h : ∀ (c : Int) (i : Nat) (e : Env), i ≤ N → e.length = n + 3 → e[0]? = some (some ⟨.list (ns.map PyData.int), false⟩) → e[1]? = some (some ⟨.int i, false⟩) → e[2]? = some (some ⟨.int c, false⟩) →
      ∃ e2, body e = some (.nx e2) ∧ e2.length = n + 3 ∧ e2[0]? = some (some ⟨.list (ns.map PyData.int), false⟩)) :
    ∃ e', mFor (iCells N) (gTupD 2 (gsCons (gVar 1) (gsCons (gVar 2) gsNil))) body (some ⟨.list (ns.map PyData.int), false⟩ :: r) = some (.nx e') ∧ e'.length = n + 3 ∧ e'[0]? = some (some ⟨.list (ns.map PyData.int), false⟩) := by
  refine eForC (f := fun p : Int × Nat => .tuple [.int p.2, .int p.1]) (fun e => e.length = n + 3 ∧ e[0]? = some (some ⟨.list (ns.map PyData.int), false⟩)) (cells N ns).zipIdx (it_cells N hN ns r) ⟨by simp [hr], rfl⟩ fun p hp e ⟨he, h0⟩ => ?_
  obtain ⟨c, i⟩ := p
  have hi : i < (cells N ns).length := (List.getElem?_eq_some_iff.mp (List.mem_zipIdx_iff_getElem?.mp hp)).1
  have hc := cells_len N ns
  obtain ⟨s0, r0, rfl, hr0⟩ := len1 he
  obtain ⟨s1, r1, rfl, hr1⟩ := len1 hr0
  obtain ⟨s2, r2, rfl, hr2⟩ := len1 hr1
  obtain ⟨e2, h1, h2, h3⟩ := h c i (s0 :: some ⟨.int i, false⟩ :: some ⟨.int c, false⟩ :: r2) (by omega) (by simp [hr2]) (by simpa using h0) rfl rfl
  exact ⟨_, e2, rfl, h1, h2, h3⟩
/-- r goes on, to an env of which P holds -/
def Nx (P : Env → Prop) : Option Fl → Prop
  | some (.nx e) => P e
  | _ => False
theorem Nx.ex {P : Env → Prop} {r : Option Fl} (h : Nx P r) : ∃ e, r = some (.nx e) ∧ P e := by
  unfold Nx at h
  split at h
  · exact ⟨_, rfl, h⟩
  · cases h
theorem Nx.seq {P : Env → Prop} {a b : MS} {env e : Env} (h1 : a env = some (.nx e)) (h2 : Nx P (b e)) : Nx P (mSeq a b env) := by
  unfold mSeq
  rw [h1]
  exact h2
theorem NxI (P : Env → Prop) (e : Env) : Nx P (some (.nx e)) = P e := rfl
/-! ### == of data -/
theorem inSign (c : Nat) (z : Str) : dIn (.str ⟨#[c]⟩) (.str z) = some (decide (c ∈ z.cps.toList)) := by simp [dIn]
theorem inSignR (c : Nat) (z : Str) : dCmpR .In (.str ⟨#[c]⟩) (.str z) = some (.bool (decide (c ∈ z.cps.toList)), false) := eCmp (by rw [dCmp_in, inSign])
theorem ninSignR (c : Nat) (z : Str) : dCmpR .NotIn (.str ⟨#[c]⟩) (.str z) = some (.bool (!decide (c ∈ z.cps.toList)), false) := eCmp (by rw [dCmp_nin, inSign]; rfl)
theorem eqSeq {a b : D} (hq : (isSeq a || isSeq b) = true) (hc : cmpOk a b = true) (hd : min a.depth b.depth ≤ 64) : dEq a b = some (PyData.eqv a b) := by
  unfold dEq okEq seqEq
  rw [hq, hc, decide_eq_true hd, Bool.and_self, Bool.and_self, Bool.or_true, if_pos rfl]
theorem eqNil (zs : List D) : dCmpR .Eq (.list zs) (.list []) = some (.bool zs.isEmpty, false) := eCmp (by
  rw [dCmp_eq, eqSeq rfl (by cases zs <;> simp [cmpOk, cmpOks]) (by simp [PyData.depth, PyData.depthAll])]
  cases zs <;> simp [PyData.eqv, PyData.eqvAll])
theorem eqNilT (zs : List D) : dCmpR .Eq (.tuple zs) (.tuple []) = some (.bool zs.isEmpty, false) := eCmp (by
  rw [dCmp_eq, eqSeq rfl (by cases zs <;> simp [cmpOk, cmpOks]) (by simp [PyData.depth, PyData.depthAll])]
  cases zs <;> simp [PyData.eqv, PyData.eqvAll])
mutual
theorem cmp_self : ∀ d : D, d.hasDict = false → cmpOk d d = true ∧ PyData.eqv d d = true
  | .none, _ => by simp [cmpOk, PyData.eqv]
  | .bool _, _ => by simp [cmpOk, PyData.eqv]
  | .int _, _ => by simp [cmpOk, PyData.eqv]
  | .str _, _ => by simp [cmpOk, PyData.eqv]
  | .list ds, h => by
    have q := cmps_self ds (by simpa [PyData.hasDict] using h)
    simp [cmpOk, PyData.eqv, q.1, q.2]
  | .tuple ds, h => by
    have q := cmps_self ds (by simpa [PyData.hasDict] using h)
    simp [cmpOk, PyData.eqv, q.1, q.2]
  | .dict _, h => by simp [PyData.hasDict] at h
theorem cmps_self : ∀ ds : List D, PyData.hasDictAll ds = false → cmpOks ds ds = true ∧ PyData.eqvAll ds ds = true
  | [], _ => by simp [cmpOks, PyData.eqvAll]
  | d :: ds, h => by
    have h' : d.hasDict = false ∧ PyData.hasDictAll ds = false := by simpa [PyData.hasDictAll] using h
    have q1 := cmp_self d h'.1
    have q2 := cmps_self ds h'.2
    simp [cmpOks, PyData.eqvAll, q1.1, q1.2, q2.1, q2.2]
end
theorem eqSelf {d : D} (hq : isSeq d = true) (h : d.hasDict = false) (hd : d.depth ≤ 64) : dCmpR .Eq d d = some (.bool true, false) := eCmp (by
  rw [dCmp_eq, eqSeq (by rw [hq]; rfl) (cmp_self d h).1 (by omega), (cmp_self d h).2])
theorem neSelf {d : D} (hq : isSeq d = true) (h : d.hasDict = false) (hd : d.depth ≤ 64) : dCmpR .NotEq d d = some (.bool false, false) := eCmp (by
  rw [dCmp_ne, eqSeq (by rw [hq]; rfl) (cmp_self d h).1 (by omega), (cmp_self d h).2]; rfl)
theorem noDict_all {ds : List D} (h : ∀ d ∈ ds, d.hasDict = false) : PyData.hasDictAll ds = false := by
  induction ds with
  | nil => simp [PyData.hasDictAll]
  | cons d ds ih => simp [PyData.hasDictAll, h d (List.mem_cons_self ..), ih fun x hx => h x (List.mem_cons_of_mem _ hx)]
theorem depth_all {ds : List D} {n : Nat} (h : ∀ d ∈ ds, d.depth ≤ n) : PyData.depthAll ds ≤ n := by
  induction ds with
  | nil => simp [PyData.depthAll]
  | cons d ds ih =>
    simp only [PyData.depthAll]
    exact Nat.max_le.mpr ⟨h d (List.mem_cons_self ..), ih fun x hx => h x (List.mem_cons_of_mem _ hx)⟩
/-- tuples of numbers -/
def wTup (ws : List Int) : D := .tuple (ws.map PyData.int)
theorem wTup_nd (ws : List Int) : (wTup ws).hasDict = false := by
  simp only [wTup, PyData.hasDict]
  exact noDict_all fun d hd => by obtain ⟨i, _, rfl⟩ := List.mem_map.mp hd; simp [PyData.hasDict]
theorem wTup_dp (ws : List Int) : (wTup ws).depth ≤ 1 := by
  simp only [wTup, PyData.depth]
  have := depth_all (ds := ws.map PyData.int) (n := 0) fun d hd => by obtain ⟨i, _, rfl⟩ := List.mem_map.mp hd; simp [PyData.depth]
  omega
theorem neWs (wss : List (List Int)) : dCmpR .NotEq (.list (wss.map wTup)) (.list (wss.map wTup)) = some (.bool false, false) := by
  refine neSelf rfl ?_ ?_
  · simp only [PyData.hasDict]
    exact noDict_all fun d hd => by obtain ⟨i, _, rfl⟩ := List.mem_map.mp hd; exact wTup_nd i
  · simp only [PyData.depth]
    have := depth_all (ds := wss.map wTup) (n := 1) fun d hd => by obtain ⟨i, _, rfl⟩ := List.mem_map.mp hd; exact wTup_dp i
    omega
theorem bAugMul (i j : Int) (h : okMul i j = true) : dAug .Mult (.int i) (.int j) = some (.int (i * j)) := if_pos h
/-! ### loops, by what a turn goes to -/
def NxA (P : Env → Prop) (asg : MG) (body : MS) (d : D) (e : Env) : Prop := match asg d e with
  | some e1 => Nx P (body e1)
  | none => False
theorem NxA.ex {P : Env → Prop} {asg : MG} {body : MS} {d : D} {e : Env} (h : NxA P asg body d e) : ∃ e1 e2, asg d e = some e1 ∧ body e1 = some (.nx e2) ∧ P e2 := by
  unfold NxA at h
  split at h
  · obtain ⟨e2, h1, h2⟩ := h.ex
    exact ⟨_, e2, by assumption, h1, h2⟩
  · cases h
theorem forN {α : Type} {f : α → D} {mi : ML} {asg : MG} {body : MS} {env e0 : Env} (P : List α → Env → Prop) (as : List α) (hi : mi env = some (as.map f, e0)) (h0 : P [] e0)
    (h : ∀ a done rest e, as = done ++ a :: rest → P done e → NxA (P (done ++ [a])) asg body (f a) e) : ∃ e', mFor mi asg body env = some (.nx e') ∧ P as e' :=
  eForD P as hi h0 fun a done rest e hd hp => (h a done rest e hd hp).ex
theorem forC {α : Type} {f : α → D} {mi : ML} {asg : MG} {body : MS} {env e0 : Env} (P : Env → Prop) (as : List α) (hi : mi env = some (as.map f, e0)) (h0 : P e0)
    (h : ∀ a ∈ as, ∀ e, P e → NxA P asg body (f a) e) : ∃ e', mFor mi asg body env = some (.nx e') ∧ P e' :=
  eForC P as hi h0 fun a ha e hp => (h a ha e hp).ex
def RtA (d0 : D) (fr : Bool) (asg : MG) (body : MS) (d : D) (e : Env) : Prop := match asg d e with
  | some e1 => body e1 = some (.rt d0 fr)
  | none => False
theorem RtA.ex {d0 : D} {fr : Bool} {asg : MG} {body : MS} {d : D} {e : Env} (h : RtA d0 fr asg body d e) : ∃ e1, asg d e = some e1 ∧ body e1 = some (.rt d0 fr) := by
  unfold RtA at h
  split at h
  · exact ⟨_, by assumption, h⟩
  · cases h
/-- a turn that goes on where b, and ends the def with d0 where not -/
def NxR (P : Env → Prop) (d0 : D) (fr b : Bool) (asg : MG) (body : MS) (d : D) (e : Env) : Prop := match asg d e with
  | some e1 => (match b with
    | true => Nx P (body e1)
    | false => body e1 = some (.rt d0 fr))
  | none => False
theorem NxR.t {P : Env → Prop} {d0 : D} {fr b : Bool} {asg : MG} {body : MS} {d : D} {e : Env} (h : NxR P d0 fr b asg body d e) (q : b = true) : ∃ e1 e2, asg d e = some e1 ∧ body e1 = some (.nx e2) ∧ P e2 := by
  subst q
  unfold NxR at h
  split at h
  · obtain ⟨e2, h1, h2⟩ := Nx.ex h
    exact ⟨_, e2, by assumption, h1, h2⟩
  · cases h
theorem NxR.f {P : Env → Prop} {d0 : D} {fr b : Bool} {asg : MG} {body : MS} {d : D} {e : Env} (h : NxR P d0 fr b asg body d e) (q : b = false) : ∃ e1, asg d e = some e1 ∧ body e1 = some (.rt d0 fr) := by
  subst q
  unfold NxR at h
  split at h
  · exact ⟨_, by assumption, h⟩
  · cases h
theorem forR {α : Type} {f : α → D} {mi : ML} {asg : MG} {body : MS} {env e0 : Env} (P : List α → Env → Prop) (p : α → Bool) (d0 : D) (fr : Bool) (as : List α) (hi : mi env = some (as.map f, e0)) (h0 : P [] e0)
    (h : ∀ a done rest e, as = done ++ a :: rest → done.all p = true → P done e → NxR (P (done ++ [a])) d0 fr (p a) asg body (f a) e) :
    (as.all p = true → ∃ e', mFor mi asg body env = some (.nx e') ∧ P as e') ∧ (as.all p = false → mFor mi asg body env = some (.rt d0 fr)) :=
  eForR P p as hi h0 (fun a done rest e hd hp hk q => (h a done rest e hd hp hk).t q) (fun a done rest e hd hp hk q => (h a done rest e hd hp hk).f q)
/-! ### comprehensions of two clauses, zip -/
def lc2o (inn : Env) (asg : MG) (tt : MT) (mi1 : ML) (vs1 : List Nat) (asg1 : MG) (tt1 : MT) (te : MV) (d : D) : Option (List D) := match asg d inn with
  | some e1 => (match tt e1 with
    | some (true, e2) => (match mi1 e2 with
      | some (ds1, e3) => lcLoop (inner vs1 e3) asg1 tt1 te ds1
      | none => none)
    | some (false, _) => some []
    | none => none)
  | none => none
theorem lc2MapA {α : Type} {f : α → D} {inn : Env} {asg : MG} {tt : MT} {mi1 : ML} {vs1 : List Nat} {asg1 : MG} {tt1 : MT} {te : MV} (g : α → List D) : ∀ {as : List α}, (∀ a ∈ as, lc2o inn asg tt mi1 vs1 asg1 tt1 te (f a) = some (g a)) → lc2Loop inn asg tt mi1 vs1 asg1 tt1 te (as.map f) = some (as.flatMap g)
  | [], _ => rfl
  | a :: as, h => by
    have h1 := h a (List.mem_cons_self ..)
    have ih := lc2MapA (f := f) (inn := inn) (asg := asg) (tt := tt) (mi1 := mi1) (vs1 := vs1) (asg1 := asg1) (tt1 := tt1) (te := te) g (as := as) fun b hb => h b (List.mem_cons_of_mem _ hb)
    unfold lc2o at h1
    rw [List.map_cons, List.flatMap_cons]
    simp only [lc2Loop]
    cases q1 : asg (f a) inn with
    | none => rw [q1] at h1; cases h1
    | some e1 =>
      rw [q1] at h1
      dsimp only at h1 ⊢
      cases q2 : tt e1 with
      | none => rw [q2] at h1; cases h1
      | some r2 =>
        obtain ⟨b2, e2⟩ := r2
        rw [q2] at h1
        cases b2 with
        | false =>
          dsimp only at h1 ⊢
          rw [ih, ← Option.some.inj h1]
          rfl
        | true =>
          dsimp only at h1 ⊢
          cases q3 : mi1 e2 with
          | none => rw [q3] at h1; cases h1
          | some r3 =>
            obtain ⟨ds1, e3⟩ := r3
            rw [q3] at h1
            dsimp only at h1 ⊢
            rw [h1]
            dsimp only
            rw [ih]
theorem zipD_map {α β : Type} (f : α → D) (g : β → D) : ∀ (as : List α) (bs : List β), zipD (as.map f) (bs.map g) = (as.zip bs).map fun p => .tuple [f p.1, g p.2]
  | [], _ => by simp [zipD]
  | _ :: _, [] => by simp [zipD]
  | a :: as, b :: bs => by
    simp only [List.map_cons, zipD, List.zip_cons_cons, zipD_map f g as bs]
theorem zipD_mapR {β : Type} (g : β → D) (as : List D) (bs : List β) : zipD as (bs.map g) = (as.zip bs).map fun p => .tuple [p.1, g p.2] := by
  have := zipD_map (fun d : D => d) g as bs
  rwa [List.map_id'] at this
theorem zipD_mapL {α : Type} (f : α → D) (as : List α) (bs : List D) : zipD (as.map f) bs = (as.zip bs).map fun p => .tuple [f p.1, p.2] := by
  have := zipD_map f (fun d : D => d) as bs
  rwa [List.map_id'] at this
theorem rangeI (i : Int) (h0 : 0 ≤ i) (h1 : i ≤ 16777216) : (i ≤ ((16777216 : Nat) : Int) ∧ -(2 ^ 62) ≤ i) = True := by
  simp only [eq_iff_iff, iff_true]
  omega
theorem bAddS (x y : Str) (h : x.length + y.length ≤ 16777216) : dBin .Add (.str x) (.str y) = some (.str (x ++ y), false) := if_pos h
/-- where a statement that goes on goes to -/
def outE : Option Fl → Env
  | some (.nx e) => e
  | _ => []
theorem nxE {r : Option Fl} {P : Env → Prop} (h : ∃ e, r = some (.nx e) ∧ P e) : r = some (.nx (outE r)) ∧ P (outE r) := by
  obtain ⟨e, rfl, h⟩ := h
  exact ⟨rfl, h⟩
theorem mId (r : Option Fl) : (match r with
  | some (.nx e) => some (.nx e)
  | r => r) = r := by
  split <;> rfl
end HC
set_option Elab.async false
set_option linter.all false
set_option maxRecDepth 100000
set_option maxHeartbeats 0
set_option autoImplicit false
namespace K02
open PySem PySem.Spec PyProof.Rows L2 HC
abbrev prog : Program := PySem.Challenge.pw_handclaims_k02_conditions_or_none
def top (i : Nat) : Stmt := prog.main.body.getD i (.Pass ⟨0, 0, 0, 0⟩)
def d_is_whole : Dx := ⟨"is_whole", top 1, ["thing"], ["thing"], [], []⟩
def d_is_within : Dx := ⟨"is_within", top 2, ["thing", "least", "most"], ["thing", "least", "most"], [], []⟩
def d_names_of : Dx := ⟨"names_of", top 3, ["boxes", "name", "size", "kind"], ["boxes"], [], []⟩
def d_size_of : Dx := ⟨"size_of", top 4, ["boxes", "name", "own", "size", "kind"], ["boxes", "name"], [], []⟩
def d_is_known_name : Dx := ⟨"is_known_name", top 8, ["boxes", "thing"], ["boxes", "thing"], [], []⟩
def d_are_names : Dx := ⟨"are_names", top 9, ["boxes", "thing", "name"], ["boxes", "thing"], [], []⟩
def d_is_worths_row : Dx := ⟨"is_worths_row", top 10, ["sizes", "thing", "worth", "size"], ["sizes", "thing"], [], []⟩
def d_are_rows : Dx := ⟨"are_rows", top 11, ["boxes", "names", "thing", "sizes", "name", "row", "one", "other"], ["boxes", "names", "thing"], [], []⟩
def d_is_leaf : Dx := ⟨"is_leaf", top 12, ["boxes", "thing"], ["boxes", "thing"], [], []⟩
abbrev sh_is_condition_0 : HC.Shape := ⟨2, ["deep"], [], [.pos 0, .pos 1, .kw 0]⟩
abbrev sh_is_condition_1 : HC.Shape := ⟨2, [], [("deep", .int 5)], [.pos 0, .pos 1, .dfl 0]⟩
def d_is_condition : Dx := ⟨"is_condition", top 13, ["boxes", "thing", "deep", "part"], ["boxes", "thing", "deep"], [("deep", .int 5)], [sh_is_condition_0, sh_is_condition_1]⟩
def d__law_numbers : Dx := ⟨"_law_numbers", top 15, ["_law_cell", "_law_salt", "_law_sizes", "_law_number", "_law_left", "_law_found", "_law_k", "_law_one"], ["_law_cell", "_law_salt", "_law_sizes"], [], []⟩
def d__law_odd : Dx := ⟨"_law_odd", top 16, ["_law_digit", "_law_some"], ["_law_digit"], [], []⟩
def d__law_is_whole : Dx := ⟨"_law_is_whole", top 17, ["_law_thing"], ["_law_thing"], [], []⟩
def d__law_all : Dx := ⟨"_law_all", top 18, ["_law_boxes_here", "_law_found", "_law_name", "_law_count", "_law_kind", "_law_more", "_law_worths", "_law_worth"], ["_law_boxes_here"], [], []⟩
def d__law_boxes : Dx := ⟨"_law_boxes", top 19, ["_law_digits", "_law_found"], ["_law_digits"], [], []⟩
def d__law_condition : Dx := ⟨"_law_condition", top 20, ["_law_digits", "_law_boxes_here", "_law_name", "_law_count", "_law_kind", "_law_other", "_law_far", "_law_more", "_law_first", "_law_second", "_law_names", "_law_rows_here", "_law_some", "_law_box", "_law_turn"], ["_law_digits", "_law_boxes_here"], [], []⟩
def d__law_is_rows : Dx := ⟨"_law_is_rows", top 21, ["_law_sizes", "_law_names", "_law_rows_here", "_law_at", "_law_name", "_law_row", "_law_worth"], ["_law_sizes", "_law_names", "_law_rows_here"], [], []⟩
def d__law_is_condition : Dx := ⟨"_law_is_condition", top 22, ["_law_boxes_here", "_law_thing", "_law_left", "_law_sizes", "_law_part", "_law_name", "_law_count", "_law_kind"], ["_law_boxes_here", "_law_thing", "_law_left"], [], []⟩
def d__law_tree : Dx := ⟨"_law_tree", top 23, ["_law_digits", "_law_boxes_here", "_law_left", "_law_parts", "_law_at"], ["_law_digits", "_law_boxes_here", "_law_left"], [], []⟩
def d__law_deep : Dx := ⟨"_law_deep", top 24, ["_law_many", "_law_inner", "_law_found", "_law_turn"], ["_law_many", "_law_inner"], [], []⟩
def d__law_within : Dx := ⟨"_law_within", top 25, ["_law_thing", "_law_digits", "_law_odd_here", "_law_at", "_law_inner"], ["_law_thing", "_law_digits", "_law_odd_here"], [], []⟩
def d__law_rows : Dx := ⟨"_law_rows", top 26, ["_law_boxes_here", "_law_digits", "_law_name", "_law_count", "_law_kind", "_law_rows_here", "_law_odd_here", "_law_some", "_law_every", "_law_worth", "_law_box"], ["_law_boxes_here", "_law_digits"], [], []⟩
def d__law_right : Dx := ⟨"_law_right", top 27, ["_law_boxes_here", "_law_digits", "_law_good", "_law_name", "_law_count", "_law_kind", "_law_odd_here", "_law_some", "_law_thing", "_law_kept", "_law_most", "_law_many"], ["_law_boxes_here", "_law_digits"], [], []⟩
def d_law : Dx := ⟨"law", top 28, ["_law_script", "_law_k", "_law_cell", "_law_digits"], ["_law_script"], [], []⟩
def ds : List Dx := [d_is_whole, d_is_within, d_names_of, d_size_of, d_is_known_name, d_are_names, d_is_worths_row, d_are_rows, d_is_leaf, d_is_condition, d__law_numbers, d__law_odd, d__law_is_whole, d__law_all, d__law_boxes, d__law_condition, d__law_is_rows, d__law_is_condition, d__law_tree, d__law_deep, d__law_within, d__law_rows, d__law_right, d_law]
theorem dsOk : DsOk ds := ⟨⟨⟨rfl, rfl, rfl, by decide +kernel, rfl, by decide +kernel, by decide +kernel⟩, fun _ _ _ _ _ _ _ us hl => match us, hl with | [_], _ => rfl, trivial⟩,
  ⟨⟨rfl, rfl, rfl, by decide +kernel, rfl, by decide +kernel, by decide +kernel⟩, fun _ _ _ _ _ _ _ us hl => match us, hl with | [_, _, _], _ => rfl, trivial⟩,
  ⟨⟨rfl, rfl, rfl, by decide +kernel, rfl, by decide +kernel, by decide +kernel⟩, fun _ _ _ _ _ _ _ us hl => match us, hl with | [_], _ => rfl, trivial⟩,
  ⟨⟨rfl, rfl, rfl, by decide +kernel, rfl, by decide +kernel, by decide +kernel⟩, fun _ _ _ _ _ _ _ us hl => match us, hl with | [_, _], _ => rfl, trivial⟩,
  ⟨⟨rfl, rfl, rfl, by decide +kernel, rfl, by decide +kernel, by decide +kernel⟩, fun _ _ _ _ _ _ _ us hl => match us, hl with | [_, _], _ => rfl, trivial⟩,
  ⟨⟨rfl, rfl, rfl, by decide +kernel, rfl, by decide +kernel, by decide +kernel⟩, fun _ _ _ _ _ _ _ us hl => match us, hl with | [_, _], _ => rfl, trivial⟩,
  ⟨⟨rfl, rfl, rfl, by decide +kernel, rfl, by decide +kernel, by decide +kernel⟩, fun _ _ _ _ _ _ _ us hl => match us, hl with | [_, _], _ => rfl, trivial⟩,
  ⟨⟨rfl, rfl, rfl, by decide +kernel, rfl, by decide +kernel, by decide +kernel⟩, fun _ _ _ _ _ _ _ us hl => match us, hl with | [_, _, _], _ => rfl, trivial⟩,
  ⟨⟨rfl, rfl, rfl, by decide +kernel, rfl, by decide +kernel, by decide +kernel⟩, fun _ _ _ _ _ _ _ us hl => match us, hl with | [_, _], _ => rfl, trivial⟩,
  ⟨⟨rfl, rfl, rfl, by decide +kernel, rfl, by decide +kernel, by decide +kernel⟩, (fun h => nomatch h), ⟨⟨(fun _ h => nomatch h), (fun _ h => nomatch h), (fun h => nomatch h), fun _ _ _ _ _ _ us mv ws l1 l2 l3 => match us, l1, mv, l2, ws, l3 with | [_, _], _, [], _, [_], _ => rfl⟩, ⟨List.forall_mem_cons.mpr ⟨List.mem_cons_self .., (fun _ h => nomatch h)⟩, List.forall_mem_cons.mpr ⟨rfl, (fun _ h => nomatch h)⟩, (fun h => nomatch h), fun _ _ _ _ _ _ us mv ws l1 l2 l3 => match us, l1, mv, l2, ws, l3 with | [_, _], _, [_], _, [], _ => ⟨_, _, _, _, _, _, rfl, rfl, rfl⟩⟩, trivial⟩⟩,
  ⟨⟨rfl, rfl, rfl, by decide +kernel, rfl, by decide +kernel, by decide +kernel⟩, fun _ _ _ _ _ _ _ us hl => match us, hl with | [_, _, _], _ => rfl, trivial⟩,
  ⟨⟨rfl, rfl, rfl, by decide +kernel, rfl, by decide +kernel, by decide +kernel⟩, fun _ _ _ _ _ _ _ us hl => match us, hl with | [_], _ => rfl, trivial⟩,
  ⟨⟨rfl, rfl, rfl, by decide +kernel, rfl, by decide +kernel, by decide +kernel⟩, fun _ _ _ _ _ _ _ us hl => match us, hl with | [_], _ => rfl, trivial⟩,
  ⟨⟨rfl, rfl, rfl, by decide +kernel, rfl, by decide +kernel, by decide +kernel⟩, fun _ _ _ _ _ _ _ us hl => match us, hl with | [_], _ => rfl, trivial⟩,
  ⟨⟨rfl, rfl, rfl, by decide +kernel, rfl, by decide +kernel, by decide +kernel⟩, fun _ _ _ _ _ _ _ us hl => match us, hl with | [_], _ => rfl, trivial⟩,
  ⟨⟨rfl, rfl, rfl, by decide +kernel, rfl, by decide +kernel, by decide +kernel⟩, fun _ _ _ _ _ _ _ us hl => match us, hl with | [_, _], _ => rfl, trivial⟩,
  ⟨⟨rfl, rfl, rfl, by decide +kernel, rfl, by decide +kernel, by decide +kernel⟩, fun _ _ _ _ _ _ _ us hl => match us, hl with | [_, _, _], _ => rfl, trivial⟩,
  ⟨⟨rfl, rfl, rfl, by decide +kernel, rfl, by decide +kernel, by decide +kernel⟩, fun _ _ _ _ _ _ _ us hl => match us, hl with | [_, _, _], _ => rfl, trivial⟩,
  ⟨⟨rfl, rfl, rfl, by decide +kernel, rfl, by decide +kernel, by decide +kernel⟩, fun _ _ _ _ _ _ _ us hl => match us, hl with | [_, _, _], _ => rfl, trivial⟩,
  ⟨⟨rfl, rfl, rfl, by decide +kernel, rfl, by decide +kernel, by decide +kernel⟩, fun _ _ _ _ _ _ _ us hl => match us, hl with | [_, _], _ => rfl, trivial⟩,
  ⟨⟨rfl, rfl, rfl, by decide +kernel, rfl, by decide +kernel, by decide +kernel⟩, fun _ _ _ _ _ _ _ us hl => match us, hl with | [_, _, _], _ => rfl, trivial⟩,
  ⟨⟨rfl, rfl, rfl, by decide +kernel, rfl, by decide +kernel, by decide +kernel⟩, fun _ _ _ _ _ _ _ us hl => match us, hl with | [_, _], _ => rfl, trivial⟩,
  ⟨⟨rfl, rfl, rfl, by decide +kernel, rfl, by decide +kernel, by decide +kernel⟩, fun _ _ _ _ _ _ _ us hl => match us, hl with | [_, _], _ => rfl, trivial⟩,
  ⟨⟨rfl, rfl, rfl, by decide +kernel, rfl, by decide +kernel, by decide +kernel⟩, fun _ _ _ _ _ _ _ us hl => match us, hl with | [_], _ => rfl, trivial⟩, trivial⟩
def gs : List Gx := [⟨"MOST_PARTS", .int 8⟩, ⟨"DEEP", .int 5⟩]
def lawIx : Nat := 28
def loose : List Str := ["DEEP", "MOST_PARTS", "_law_all", "_law_boxes", "_law_condition", "_law_deep", "_law_is_condition", "_law_is_rows", "_law_is_whole", "_law_numbers", "_law_odd", "_law_right", "_law_rows", "_law_tree", "_law_within", "are_names", "are_rows", "is_condition", "is_known_name", "is_leaf", "is_whole", "is_within", "is_worths_row", "names_of", "size_of"]
end K02
set_option Elab.async false
set_option linter.all false
set_option maxRecDepth 100000
set_option maxHeartbeats 0
set_option autoImplicit false
namespace K02
open PySem PySem.Spec PyProof.Rows L2 HC
abbrev R : PySem.W.OpenRow := PySem.W.OpenLaw.row PySem.Challenge.rw_handclaims_k02_conditions_or_none
theorem run (w : World) : HandSHeadRun.RunEq R (PySem.W.view R.prog [lawIx]) (hookH 4 ds gs) (obH 4 ds gs) 8000 loose w := by
  intro os
  kernel_rfl
end K02
set_option Elab.async false
set_option linter.all false
set_option maxRecDepth 100000
set_option maxHeartbeats 0
set_option autoImplicit false
namespace K02
open PySem PySem.Spec PyProof.Rows L2 HC
abbrev CF (k : Nat) : Str → List D → Option (D × Bool) := callN (glOf gs) (tabOf ds) 60 k
def b_is_whole (cf : Str → List D → Option (D × Bool)) : MS :=
  (mSeq
    (mRet (vAnd [(ev1 (mVar 0) (dIsaR .int)), (ev1 (ev1 (mVar 0) (dIsaR .bool)) dNot)]))
  mSkip)
theorem e_is_whole (cf : Str → List D → Option (D × Bool)) : exs ⟨d_is_whole.N, glOf gs, cf, shT (tabOf ds)⟩ ⟨defScope d_is_whole.st, fun _ => true⟩ 60 (defBody d_is_whole.st) = b_is_whole cf := by kernel_rfl
theorem c_is_whole (k : Nat) (x0 : D) : CF (k + 1) "is_whole" [x0] = fOut (b_is_whole (CF k) [some ⟨x0, false⟩]) := by
  show runD (glOf gs) (CF k) (shT (tabOf ds)) 60 d_is_whole.df [x0] = _
  unfold runD
  rw [if_pos (by rfl)]
  show fOut (exs ⟨d_is_whole.N, glOf gs, CF k, shT (tabOf ds)⟩ ⟨defScope d_is_whole.st, fun _ => true⟩ 60 (defBody d_is_whole.st) _) = _
  rw [e_is_whole]
  rfl
def b_is_within (cf : Str → List D → Option (D × Bool)) : MS :=
  (mSeq
    (mRet (vAnd [(mCall (cf "is_whole") (lS [(mVar 0)])), (mChain .LtE .LtE (mVar 1) (mVar 0) (mVar 2))]))
  mSkip)
theorem e_is_within (cf : Str → List D → Option (D × Bool)) : exs ⟨d_is_within.N, glOf gs, cf, shT (tabOf ds)⟩ ⟨defScope d_is_within.st, fun _ => true⟩ 60 (defBody d_is_within.st) = b_is_within cf := by kernel_rfl
theorem c_is_within (k : Nat) (x0 x1 x2 : D) : CF (k + 1) "is_within" [x0, x1, x2] = fOut (b_is_within (CF k) [some ⟨x0, false⟩, some ⟨x1, false⟩, some ⟨x2, false⟩]) := by
  show runD (glOf gs) (CF k) (shT (tabOf ds)) 60 d_is_within.df [x0, x1, x2] = _
  unfold runD
  rw [if_pos (by rfl)]
  show fOut (exs ⟨d_is_within.N, glOf gs, CF k, shT (tabOf ds)⟩ ⟨defScope d_is_within.st, fun _ => true⟩ 60 (defBody d_is_within.st) _) = _
  rw [e_is_within]
  rfl
def b_names_of (cf : Str → List D → Option (D × Bool)) : MS :=
  (mSeq
    (mRet (mLc [] [1, 2, 3] (miVal (mVar 0)) (gTupD 3 (gsCons (gVar 1) (gsCons (gVar 2) (gsCons (gVar 3) gsNil)))) (mIfs none) (mVar 1)))
  mSkip)
theorem e_names_of (cf : Str → List D → Option (D × Bool)) : exs ⟨d_names_of.N, glOf gs, cf, shT (tabOf ds)⟩ ⟨defScope d_names_of.st, fun _ => true⟩ 60 (defBody d_names_of.st) = b_names_of cf := by kernel_rfl
theorem c_names_of (k : Nat) (x0 : D) : CF (k + 1) "names_of" [x0] = fOut (b_names_of (CF k) [some ⟨x0, false⟩, none, none, none]) := by
  show runD (glOf gs) (CF k) (shT (tabOf ds)) 60 d_names_of.df [x0] = _
  unfold runD
  rw [if_pos (by rfl)]
  show fOut (exs ⟨d_names_of.N, glOf gs, CF k, shT (tabOf ds)⟩ ⟨defScope d_names_of.st, fun _ => true⟩ 60 (defBody d_names_of.st) _) = _
  rw [e_names_of]
  rfl
def b_size_of (cf : Str → List D → Option (D × Bool)) : MS :=
  (mSeq
    (mRet (ev2 (mLc [1] [2, 3, 4] (miVal (mVar 0)) (gTupD 3 (gsCons (gVar 2) (gsCons (gVar 3) (gsCons (gVar 4) gsNil)))) (mIfs (some (mBool (ev2 (mVar 2) (mVar 1) (dCmpR .Eq))))) (mVar 3)) (mConst (.int 0)) dIx))
  mSkip)
theorem e_size_of (cf : Str → List D → Option (D × Bool)) : exs ⟨d_size_of.N, glOf gs, cf, shT (tabOf ds)⟩ ⟨defScope d_size_of.st, fun _ => true⟩ 60 (defBody d_size_of.st) = b_size_of cf := by kernel_rfl
theorem c_size_of (k : Nat) (x0 x1 : D) : CF (k + 1) "size_of" [x0, x1] = fOut (b_size_of (CF k) [some ⟨x0, false⟩, some ⟨x1, false⟩, none, none, none]) := by
  show runD (glOf gs) (CF k) (shT (tabOf ds)) 60 d_size_of.df [x0, x1] = _
  unfold runD
  rw [if_pos (by rfl)]
  show fOut (exs ⟨d_size_of.N, glOf gs, CF k, shT (tabOf ds)⟩ ⟨defScope d_size_of.st, fun _ => true⟩ 60 (defBody d_size_of.st) _) = _
  rw [e_size_of]
  rfl
def b_is_known_name (cf : Str → List D → Option (D × Bool)) : MS :=
  (mSeq
    (mRet (vAnd [(ev1 (mVar 1) (dIsaR .str)), (ev2 (mVar 1) (mCall (cf "names_of") (lS [(mVar 0)])) (dCmpR .In))]))
  mSkip)
theorem e_is_known_name (cf : Str → List D → Option (D × Bool)) : exs ⟨d_is_known_name.N, glOf gs, cf, shT (tabOf ds)⟩ ⟨defScope d_is_known_name.st, fun _ => true⟩ 60 (defBody d_is_known_name.st) = b_is_known_name cf := by kernel_rfl
theorem c_is_known_name (k : Nat) (x0 x1 : D) : CF (k + 1) "is_known_name" [x0, x1] = fOut (b_is_known_name (CF k) [some ⟨x0, false⟩, some ⟨x1, false⟩]) := by
  show runD (glOf gs) (CF k) (shT (tabOf ds)) 60 d_is_known_name.df [x0, x1] = _
  unfold runD
  rw [if_pos (by rfl)]
  show fOut (exs ⟨d_is_known_name.N, glOf gs, CF k, shT (tabOf ds)⟩ ⟨defScope d_is_known_name.st, fun _ => true⟩ 60 (defBody d_is_known_name.st) _) = _
  rw [e_is_known_name]
  rfl
def b_are_names (cf : Str → List D → Option (D × Bool)) : MS :=
  (mSeq
    (mIfS (mOr [(mNotT (mTru (ev1 (mVar 1) (dIsaR .tuple)))), (mBool (ev2 (mVar 1) (mTup (lS [])) (dCmpR .Eq))), (mNotT (mTru (mBi .all (lR [(mLc [0] [2] (miVal (mVar 1)) (gVar 2) (mIfs none) (mCall (cf "is_known_name") (lS [(mVar 0), (mVar 2)])))]))))])
      (mSeq
        (mRet (mConst (.bool false)))
      mSkip)
      mSkip)
  (mSeq
    (mRet (ev2 (mLenSet (mSetL (mVar 1))) (mBi .len (lR [(mVar 1)])) (dCmpR .Eq)))
  mSkip))
theorem e_are_names (cf : Str → List D → Option (D × Bool)) : exs ⟨d_are_names.N, glOf gs, cf, shT (tabOf ds)⟩ ⟨defScope d_are_names.st, fun _ => true⟩ 60 (defBody d_are_names.st) = b_are_names cf := by kernel_rfl
theorem c_are_names (k : Nat) (x0 x1 : D) : CF (k + 1) "are_names" [x0, x1] = fOut (b_are_names (CF k) [some ⟨x0, false⟩, some ⟨x1, false⟩, none]) := by
  show runD (glOf gs) (CF k) (shT (tabOf ds)) 60 d_are_names.df [x0, x1] = _
  unfold runD
  rw [if_pos (by rfl)]
  show fOut (exs ⟨d_are_names.N, glOf gs, CF k, shT (tabOf ds)⟩ ⟨defScope d_are_names.st, fun _ => true⟩ 60 (defBody d_are_names.st) _) = _
  rw [e_are_names]
  rfl
def b_is_worths_row (cf : Str → List D → Option (D × Bool)) : MS :=
  (mSeq
    (mIfS (mOr [(mNotT (mTru (ev1 (mVar 1) (dIsaR .tuple)))), (mBool (ev2 (mBi .len (lR [(mVar 1)])) (mBi .len (lR [(mVar 0)])) (dCmpR .NotEq)))])
      (mSeq
        (mRet (mConst (.bool false)))
      mSkip)
      mSkip)
  (mSeq
    (mRet (mBi .all (lR [(mLc [] [2, 3] (miZip (lS [(mVar 1), (mVar 0)])) (gTupD 2 (gsCons (gVar 2) (gsCons (gVar 3) gsNil))) (mIfs none) (mCall (cf "is_within") (lS [(mVar 2), (mConst (.int 0)), (ev2 (mVar 3) (mConst (.int 1)) (dBin .Sub))])))])))
  mSkip))
theorem e_is_worths_row (cf : Str → List D → Option (D × Bool)) : exs ⟨d_is_worths_row.N, glOf gs, cf, shT (tabOf ds)⟩ ⟨defScope d_is_worths_row.st, fun _ => true⟩ 60 (defBody d_is_worths_row.st) = b_is_worths_row cf := by kernel_rfl
theorem c_is_worths_row (k : Nat) (x0 x1 : D) : CF (k + 1) "is_worths_row" [x0, x1] = fOut (b_is_worths_row (CF k) [some ⟨x0, false⟩, some ⟨x1, false⟩, none, none]) := by
  show runD (glOf gs) (CF k) (shT (tabOf ds)) 60 d_is_worths_row.df [x0, x1] = _
  unfold runD
  rw [if_pos (by rfl)]
  show fOut (exs ⟨d_is_worths_row.N, glOf gs, CF k, shT (tabOf ds)⟩ ⟨defScope d_is_worths_row.st, fun _ => true⟩ 60 (defBody d_is_worths_row.st) _) = _
  rw [e_is_worths_row]
  rfl
def b_are_rows (cf : Str → List D → Option (D × Bool)) : MS :=
  (mSeq
    (mSet 3 (mLc [0] [4] (miVal (mVar 1)) (gVar 4) (mIfs none) (mCall (cf "size_of") (lS [(mVar 0), (mVar 4)]))))
  (mSeq
    (mIfS (mOr [(mNotT (mTru (ev1 (mVar 2) (dIsaR .tuple)))), (mNotT (mTru (mBi .all (lR [(mLc [3] [5] (miVal (mVar 2)) (gVar 5) (mIfs none) (mCall (cf "is_worths_row") (lS [(mVar 3), (mVar 5)])))]))))])
      (mSeq
        (mRet (mConst (.bool false)))
      mSkip)
      mSkip)
  (mSeq
    (mRet (mBi .all (lR [(mLc [] [6, 7] (miZip (lS [(mVar 2), (mSl (mVar 2) (some (mConst (.int 1))) none)])) (gTupD 2 (gsCons (gVar 6) (gsCons (gVar 7) gsNil))) (mIfs none) (ev2 (mVar 6) (mVar 7) (dCmpR .Lt)))])))
  mSkip)))
theorem e_are_rows (cf : Str → List D → Option (D × Bool)) : exs ⟨d_are_rows.N, glOf gs, cf, shT (tabOf ds)⟩ ⟨defScope d_are_rows.st, fun _ => true⟩ 60 (defBody d_are_rows.st) = b_are_rows cf := by kernel_rfl
theorem c_are_rows (k : Nat) (x0 x1 x2 : D) : CF (k + 1) "are_rows" [x0, x1, x2] = fOut (b_are_rows (CF k) [some ⟨x0, false⟩, some ⟨x1, false⟩, some ⟨x2, false⟩, none, none, none, none, none]) := by
  show runD (glOf gs) (CF k) (shT (tabOf ds)) 60 d_are_rows.df [x0, x1, x2] = _
  unfold runD
  rw [if_pos (by rfl)]
  show fOut (exs ⟨d_are_rows.N, glOf gs, CF k, shT (tabOf ds)⟩ ⟨defScope d_are_rows.st, fun _ => true⟩ 60 (defBody d_are_rows.st) _) = _
  rw [e_are_rows]
  rfl
def b_is_leaf (cf : Str → List D → Option (D × Bool)) : MS :=
  (mSeq
    (mIfS (mBool (ev2 (ev2 (mVar 1) (mConst (.int 0)) dIx) (mConst (.str "yes")) (dCmpR .Eq)))
      (mSeq
        (mRet (ev2 (mBi .len (lR [(mVar 1)])) (mConst (.int 1)) (dCmpR .Eq)))
      mSkip)
      mSkip)
  (mSeq
    (mIfS (mBool (ev2 (mBi .len (lR [(mVar 1)])) (mConst (.int 3)) (dCmpR .NotEq)))
      (mSeq
        (mRet (mConst (.bool false)))
      mSkip)
      mSkip)
  (mSeq
    (mIfS (mBool (ev2 (ev2 (mVar 1) (mConst (.int 0)) dIx) (mConst (.str "is")) (dCmpR .Eq)))
      (mSeq
        (mRet (vAnd [(mCall (cf "is_known_name") (lS [(mVar 0), (ev2 (mVar 1) (mConst (.int 1)) dIx)])), (mCall (cf "is_within") (lS [(ev2 (mVar 1) (mConst (.int 2)) dIx), (mConst (.int 0)), (ev2 (mCall (cf "size_of") (lS [(mVar 0), (ev2 (mVar 1) (mConst (.int 1)) dIx)])) (mConst (.int 1)) (dBin .Sub))]))]))
      mSkip)
      mSkip)
  (mSeq
    (mIfS (mBool (ev2 (ev2 (mVar 1) (mConst (.int 0)) dIx) (mConst (.str "like")) (dCmpR .Eq)))
      (mSeq
        (mRet (vAnd [(mCall (cf "is_known_name") (lS [(mVar 0), (ev2 (mVar 1) (mConst (.int 1)) dIx)])), (mCall (cf "is_known_name") (lS [(mVar 0), (ev2 (mVar 1) (mConst (.int 2)) dIx)]))]))
      mSkip)
      mSkip)
  (mSeq
    (mRet (vAnd [(ev2 (ev2 (mVar 1) (mConst (.int 0)) dIx) (mConst (.str "among")) (dCmpR .Eq)), (mCall (cf "are_names") (lS [(mVar 0), (ev2 (mVar 1) (mConst (.int 1)) dIx)])), (mCall (cf "are_rows") (lS [(mVar 0), (ev2 (mVar 1) (mConst (.int 1)) dIx), (ev2 (mVar 1) (mConst (.int 2)) dIx)]))]))
  mSkip)))))
theorem e_is_leaf (cf : Str → List D → Option (D × Bool)) : exs ⟨d_is_leaf.N, glOf gs, cf, shT (tabOf ds)⟩ ⟨defScope d_is_leaf.st, fun _ => true⟩ 60 (defBody d_is_leaf.st) = b_is_leaf cf := by kernel_rfl
theorem c_is_leaf (k : Nat) (x0 x1 : D) : CF (k + 1) "is_leaf" [x0, x1] = fOut (b_is_leaf (CF k) [some ⟨x0, false⟩, some ⟨x1, false⟩]) := by
  show runD (glOf gs) (CF k) (shT (tabOf ds)) 60 d_is_leaf.df [x0, x1] = _
  unfold runD
  rw [if_pos (by rfl)]
  show fOut (exs ⟨d_is_leaf.N, glOf gs, CF k, shT (tabOf ds)⟩ ⟨defScope d_is_leaf.st, fun _ => true⟩ 60 (defBody d_is_leaf.st) _) = _
  rw [e_is_leaf]
  rfl
def b_is_condition (cf : Str → List D → Option (D × Bool)) : MS :=
  (mSeq
    (mIfS (mOr [(mBool (ev2 (mVar 2) (mConst (.int 1)) (dCmpR .Lt))), (mNotT (mTru (ev1 (mVar 1) (dIsaR .tuple)))), (mBool (ev2 (mVar 1) (mTup (lS [])) (dCmpR .Eq))), (mNotT (mTru (ev1 (ev2 (mVar 1) (mConst (.int 0)) dIx) (dIsaR .str))))])
      (mSeq
        (mRet (mConst (.bool false)))
      mSkip)
      mSkip)
  (mSeq
    (mIfS (mBool (ev2 (ev2 (mVar 1) (mConst (.int 0)) dIx) (mConst (.str "not")) (dCmpR .Eq)))
      (mSeq
        (mRet (vAnd [(ev2 (mBi .len (lR [(mVar 1)])) (mConst (.int 2)) (dCmpR .Eq)), (mCallS (cf "is_condition") sh_is_condition_0 (lS [(mVar 0), (ev2 (mVar 1) (mConst (.int 1)) dIx)]) (lS [(ev2 (mVar 2) (mConst (.int 1)) (dBin .Sub))]))]))
      mSkip)
      mSkip)
  (mSeq
    (mIfS (mBool (ev2 (ev2 (mVar 1) (mConst (.int 0)) dIx) (mTup (lS [(mConst (.str "and")), (mConst (.str "or"))])) (dCmpR .NotIn)))
      (mSeq
        (mRet (mCall (cf "is_leaf") (lS [(mVar 0), (mVar 1)])))
      mSkip)
      mSkip)
  (mSeq
    (mIfS (mOr [(mBool (ev2 (mBi .len (lR [(mVar 1)])) (mConst (.int 2)) (dCmpR .NotEq))), (mNotT (mTru (ev1 (ev2 (mVar 1) (mConst (.int 1)) dIx) (dIsaR .tuple)))), (mNotT (mBool (mChain .LtE .LtE (mConst (.int 1)) (mBi .len (lR [(ev2 (mVar 1) (mConst (.int 1)) dIx)])) (mConst (.int 8)))))])
      (mSeq
        (mRet (mConst (.bool false)))
      mSkip)
      mSkip)
  (mSeq
    (mRet (mBi .all (lR [(mLc [0, 2] [3] (miVal (ev2 (mVar 1) (mConst (.int 1)) dIx)) (gVar 3) (mIfs none) (mCallS (cf "is_condition") sh_is_condition_0 (lS [(mVar 0), (mVar 3)]) (lS [(ev2 (mVar 2) (mConst (.int 1)) (dBin .Sub))])))])))
  mSkip)))))
theorem e_is_condition (cf : Str → List D → Option (D × Bool)) : exs ⟨d_is_condition.N, glOf gs, cf, shT (tabOf ds)⟩ ⟨defScope d_is_condition.st, fun _ => true⟩ 60 (defBody d_is_condition.st) = b_is_condition cf := by kernel_rfl
theorem c_is_condition (k : Nat) (x0 x1 x2 : D) : CF (k + 1) "is_condition" [x0, x1, x2] = fOut (b_is_condition (CF k) [some ⟨x0, false⟩, some ⟨x1, false⟩, some ⟨x2, false⟩, none]) := by
  show runD (glOf gs) (CF k) (shT (tabOf ds)) 60 d_is_condition.df [x0, x1, x2] = _
  unfold runD
  rw [if_pos (by rfl)]
  show fOut (exs ⟨d_is_condition.N, glOf gs, CF k, shT (tabOf ds)⟩ ⟨defScope d_is_condition.st, fun _ => true⟩ 60 (defBody d_is_condition.st) _) = _
  rw [e_is_condition]
  rfl
def b__law_numbers_l1 (cf : Str → List D → Option (D × Bool)) : MS :=
  (mSeq
    (mIfS (mAnd [(mBool (ev2 (mVar 3) (ev2 (mConst (.int 10)) (mConst (.int 18)) (dBin .Pow)) (dCmpR .GtE))), (mBool (ev2 (mVar 4) (mConst (.int 0)) (dCmpR .Gt)))])
      (mSeq
        (mMeth 5 .append (lS [(ev2 (mVar 4) (ev2 (mVar 2) (mVar 6) dIx) (dBin .Mod))]))
      (mSeq
        (mSet 4 (ev2 (mVar 4) (ev2 (mVar 2) (mVar 6) dIx) (dBin .FloorDiv)))
      mSkip))
      (mSeq
        (mSet 7 (ev2 (ev2 (ev2 (ev2 (ev2 (mVar 3) (mConst (.int 2147483629)) (dBin .Mod)) (ev2 (mConst (.int 7919)) (mVar 1) (dBin .Mult)) (dBin .Add)) (mConst (.int 1)) (dBin .Add)) (mConst (.int 3)) (dBin .Pow)) (mConst (.int 2147483647)) (dBin .Mod)))
      (mSeq
        (mSet 7 (ev2 (ev2 (ev2 (mVar 7) (ev2 (mConst (.int 104729)) (ev2 (mVar 6) (mConst (.int 1)) (dBin .Add)) (dBin .Mult)) (dBin .Add)) (ev2 (mVar 6) (mConst (.int 3)) (dBin .Add)) (dBin .Mult)) (mConst (.int 2147483629)) (dBin .Mod)))
      (mSeq
        (mSet 7 (ev2 (ev2 (ev2 (ev2 (mVar 7) (mConst (.int 5)) (dBin .Pow)) (mConst (.int 2147483647)) (dBin .Mod)) (mConst (.int 48271)) (dBin .Mult)) (mConst (.int 2147483629)) (dBin .Mod)))
      (mSeq
        (mMeth 5 .append (lS [(ev2 (ev2 (mVar 7) (mConst (.int 16)) (dBin .FloorDiv)) (ev2 (mVar 2) (mVar 6) dIx) (dBin .Mod))]))
      mSkip)))))
  mSkip)
abbrev g__law_numbers_l1 : MG := (gVar 6)
abbrev i__law_numbers_l1 (cf : Str → List D → Option (D × Bool)) : ML := (miRange (lS [(mBi .len (lR [(mVar 2)]))]))
def b__law_numbers (cf : Str → List D → Option (D × Bool)) : MS :=
  (mSeq
    (mSet 3 (mBi .max (lR [(mVar 0), (ev2 (ev1 (mConst (.int 1)) dNeg) (mVar 0) (dBin .Sub))])))
  (mSeq
    (mSet 4 (mVar 3))
  (mSeq
    (mSet 5 (mLst (lS [])))
  (mSeq
    (mFor (i__law_numbers_l1 cf) g__law_numbers_l1 (b__law_numbers_l1 cf))
  (mSeq
    (mRet (mVar 5))
  mSkip)))))
theorem e__law_numbers (cf : Str → List D → Option (D × Bool)) : exs ⟨d__law_numbers.N, glOf gs, cf, shT (tabOf ds)⟩ ⟨defScope d__law_numbers.st, fun _ => true⟩ 60 (defBody d__law_numbers.st) = b__law_numbers cf := by kernel_rfl
theorem c__law_numbers (k : Nat) (x0 x1 x2 : D) : CF (k + 1) "_law_numbers" [x0, x1, x2] = fOut (b__law_numbers (CF k) [some ⟨x0, false⟩, some ⟨x1, false⟩, some ⟨x2, false⟩, none, none, none, none, none]) := by
  show runD (glOf gs) (CF k) (shT (tabOf ds)) 60 d__law_numbers.df [x0, x1, x2] = _
  unfold runD
  rw [if_pos (by rfl)]
  show fOut (exs ⟨d__law_numbers.N, glOf gs, CF k, shT (tabOf ds)⟩ ⟨defScope d__law_numbers.st, fun _ => true⟩ 60 (defBody d__law_numbers.st) _) = _
  rw [e__law_numbers]
  rfl
def b__law_odd (cf : Str → List D → Option (D × Bool)) : MS :=
  (mSeq
    (mSet 1 (mLst (lS [(mConst .none), (mConst (.bool true)), (mConst (.bool false)), (mConst (.str "")), (mConst (.str "a")), (mConst (.int 5)), (ev1 (mConst (.int 1)) dNeg), (mTup (lS [])), (mLst (lS [])), mDct0, (mTup (lS [(mConst (.str "a"))])), (mLst (lS [(mTup (lS [(mConst (.str "a")), (mConst (.int 2)), (mConst (.str "real"))]))])), (mTup (lS [(mConst (.str "yes"))])), (ev2 (mConst (.int 10)) (mConst (.int 30)) (dBin .Pow)), (mConst (.str "among"))])))
  (mSeq
    (mRet (ev2 (ev2 (mVar 1) (mLst (lS [(mTup (lS [(mConst (.int 0))]))])) (dBin .Add)) (ev2 (mVar 0) (mConst (.int 16)) (dBin .Mod)) dIx))
  mSkip))
theorem e__law_odd (cf : Str → List D → Option (D × Bool)) : exs ⟨d__law_odd.N, glOf gs, cf, shT (tabOf ds)⟩ ⟨defScope d__law_odd.st, fun _ => true⟩ 60 (defBody d__law_odd.st) = b__law_odd cf := by kernel_rfl
theorem c__law_odd (k : Nat) (x0 : D) : CF (k + 1) "_law_odd" [x0] = fOut (b__law_odd (CF k) [some ⟨x0, false⟩, none]) := by
  show runD (glOf gs) (CF k) (shT (tabOf ds)) 60 d__law_odd.df [x0] = _
  unfold runD
  rw [if_pos (by rfl)]
  show fOut (exs ⟨d__law_odd.N, glOf gs, CF k, shT (tabOf ds)⟩ ⟨defScope d__law_odd.st, fun _ => true⟩ 60 (defBody d__law_odd.st) _) = _
  rw [e__law_odd]
  rfl
def b__law_is_whole (cf : Str → List D → Option (D × Bool)) : MS :=
  (mSeq
    (mRet (vAnd [(ev1 (mVar 0) (dIsaR .int)), (ev1 (ev1 (mVar 0) (dIsaR .bool)) dNot)]))
  mSkip)
theorem e__law_is_whole (cf : Str → List D → Option (D × Bool)) : exs ⟨d__law_is_whole.N, glOf gs, cf, shT (tabOf ds)⟩ ⟨defScope d__law_is_whole.st, fun _ => true⟩ 60 (defBody d__law_is_whole.st) = b__law_is_whole cf := by kernel_rfl
theorem c__law_is_whole (k : Nat) (x0 : D) : CF (k + 1) "_law_is_whole" [x0] = fOut (b__law_is_whole (CF k) [some ⟨x0, false⟩]) := by
  show runD (glOf gs) (CF k) (shT (tabOf ds)) 60 d__law_is_whole.df [x0] = _
  unfold runD
  rw [if_pos (by rfl)]
  show fOut (exs ⟨d__law_is_whole.N, glOf gs, CF k, shT (tabOf ds)⟩ ⟨defScope d__law_is_whole.st, fun _ => true⟩ 60 (defBody d__law_is_whole.st) _) = _
  rw [e__law_is_whole]
  rfl
def b__law_all_l1 (cf : Str → List D → Option (D × Bool)) : MS :=
  (mSeq
    (mSet 5 (ev2 (mVar 5) (mLc [6] [7] (miRange (lS [(mVar 3)])) (gVar 7) (mIfs none) (ev2 (mVar 6) (mTup (lS [(mVar 7)])) (dBin .Add))) (dBin .Add)))
  mSkip)
abbrev g__law_all_l1 : MG := (gVar 6)
abbrev i__law_all_l1 (cf : Str → List D → Option (D × Bool)) : ML := (miVal (mVar 1))
def b__law_all_l2 (cf : Str → List D → Option (D × Bool)) : MS :=
  (mSeq
    (mSet 5 (mLst (lS [])))
  (mSeq
    (mFor (i__law_all_l1 cf) g__law_all_l1 (b__law_all_l1 cf))
  (mSeq
    (mSet 1 (mVar 5))
  mSkip)))
abbrev g__law_all_l2 : MG := (gTupD 3 (gsCons (gVar 2) (gsCons (gVar 3) (gsCons (gVar 4) gsNil))))
abbrev i__law_all_l2 (cf : Str → List D → Option (D × Bool)) : ML := (miVal (mVar 0))
def b__law_all (cf : Str → List D → Option (D × Bool)) : MS :=
  (mSeq
    (mSet 1 (mLst (lS [(mTup (lS []))])))
  (mSeq
    (mFor (i__law_all_l2 cf) g__law_all_l2 (b__law_all_l2 cf))
  (mSeq
    (mRet (mVar 1))
  mSkip)))
theorem e__law_all (cf : Str → List D → Option (D × Bool)) : exs ⟨d__law_all.N, glOf gs, cf, shT (tabOf ds)⟩ ⟨defScope d__law_all.st, fun _ => true⟩ 60 (defBody d__law_all.st) = b__law_all cf := by kernel_rfl
theorem c__law_all (k : Nat) (x0 : D) : CF (k + 1) "_law_all" [x0] = fOut (b__law_all (CF k) [some ⟨x0, false⟩, none, none, none, none, none, none, none]) := by
  show runD (glOf gs) (CF k) (shT (tabOf ds)) 60 d__law_all.df [x0] = _
  unfold runD
  rw [if_pos (by rfl)]
  show fOut (exs ⟨d__law_all.N, glOf gs, CF k, shT (tabOf ds)⟩ ⟨defScope d__law_all.st, fun _ => true⟩ 60 (defBody d__law_all.st) _) = _
  rw [e__law_all]
  rfl
def b__law_boxes (cf : Str → List D → Option (D × Bool)) : MS :=
  (mSeq
    (mSet 1 (mSl (mLst (lS [(mTup (lS [(mConst (.str "a")), (ev2 (mConst (.int 2)) (ev2 (ev2 (mVar 0) (mConst (.int 0)) dIx) (mConst (.int 2)) (dBin .Mod)) (dBin .Add)), (mConst (.str "real"))])), (mTup (lS [(mConst (.str "b")), (mConst (.int 2)), (mConst (.str "real"))]))])) none (some (ev2 (mConst (.int 1)) (ev2 (ev2 (mVar 0) (mConst (.int 1)) dIx) (mConst (.int 2)) (dBin .Mod)) (dBin .Add)))))
  (mSeq
    (mIfS (mBool (ev2 (ev2 (ev2 (mVar 0) (mConst (.int 2)) dIx) (mConst (.int 3)) (dBin .Mod)) (mConst (.int 0)) (dCmpR .Gt)))
      (mSeq
        (mMeth 1 .insert (lS [(ev2 (ev2 (mVar 0) (mConst (.int 3)) dIx) (ev2 (mBi .len (lR [(mVar 1)])) (mConst (.int 1)) (dBin .Add)) (dBin .Mod)), (mTup (lS [(mConst (.str "g")), (ev2 (mConst (.int 2)) (ev2 (ev2 (mVar 0) (mConst (.int 4)) dIx) (mConst (.int 2)) (dBin .Mod)) (dBin .Add)), (ev2 (mLst (lS [(mConst (.str "put")), (mConst (.str "real"))])) (ev2 (ev2 (mVar 0) (mConst (.int 5)) dIx) (mConst (.int 2)) (dBin .Mod)) dIx)]))]))
      mSkip)
      mSkip)
  (mSeq
    (mRet (mVar 1))
  mSkip)))
theorem e__law_boxes (cf : Str → List D → Option (D × Bool)) : exs ⟨d__law_boxes.N, glOf gs, cf, shT (tabOf ds)⟩ ⟨defScope d__law_boxes.st, fun _ => true⟩ 60 (defBody d__law_boxes.st) = b__law_boxes cf := by kernel_rfl
theorem c__law_boxes (k : Nat) (x0 : D) : CF (k + 1) "_law_boxes" [x0] = fOut (b__law_boxes (CF k) [some ⟨x0, false⟩, none]) := by
  show runD (glOf gs) (CF k) (shT (tabOf ds)) 60 d__law_boxes.df [x0] = _
  unfold runD
  rw [if_pos (by rfl)]
  show fOut (exs ⟨d__law_boxes.N, glOf gs, CF k, shT (tabOf ds)⟩ ⟨defScope d__law_boxes.st, fun _ => true⟩ 60 (defBody d__law_boxes.st) _) = _
  rw [e__law_boxes]
  rfl
def b__law_condition (cf : Str → List D → Option (D × Bool)) : MS :=
  (mSeq
    (mAsg (ev2 (mVar 1) (ev2 (ev2 (mVar 0) (mConst (.int 0)) dIx) (mBi .len (lR [(mVar 1)])) (dBin .Mod)) dIx) (gTupD 3 (gsCons (gVar 2) (gsCons (gVar 3) (gsCons (gVar 4) gsNil)))))
  (mSeq
    (mAsg (ev2 (mVar 1) (ev2 (ev2 (mVar 0) (mConst (.int 1)) dIx) (mBi .len (lR [(mVar 1)])) (dBin .Mod)) dIx) (gTupD 3 (gsCons (gVar 5) (gsCons (gVar 6) (gsCons (gVar 7) gsNil)))))
  (mSeq
    (mPar2 8 9 (lS [(mTup (lS [(mConst (.str "is")), (mVar 2), (ev2 (ev2 (mVar 0) (mConst (.int 2)) dIx) (mVar 3) (dBin .Mod))])), (mTup (lS [(mConst (.str "is")), (mVar 5), (ev2 (ev2 (mVar 0) (mConst (.int 3)) dIx) (mVar 6) (dBin .Mod))]))]))
  (mSeq
    (mSet 10 (mBi .tuple (lR [(mLc [] [13] (miVal (mSl (mVar 1) (some (ev2 (ev2 (mVar 0) (mConst (.int 1)) dIx) (mBi .len (lR [(mVar 1)])) (dBin .Mod))) none)) (gVar 13) (mIfs none) (ev2 (mVar 13) (mConst (.int 0)) dIx))])))
  (mSeq
    (mSet 11 (mLc [1, 0, 10] [14] (miRange (lS [(mConst (.int 3))])) (gVar 14) (mIfs none) (mBi .tuple (lR [(mLc [0, 10, 14] [13] (miVal (mVar 1)) (gVar 13) (mIfs (some (mBool (ev2 (ev2 (mVar 13) (mConst (.int 0)) dIx) (mVar 10) (dCmpR .In))))) (ev2 (ev2 (ev2 (mVar 0) (mConst (.int 2)) dIx) (ev2 (mVar 14) (ev2 (mVar 0) (mConst (.int 3)) dIx) (dBin .Mult)) (dBin .Add)) (ev2 (mVar 13) (mConst (.int 1)) dIx) (dBin .Mod)))]))))
  (mSeq
    (mSet 12 (mLst (lS [(mTup (lS [(mConst (.str "yes"))])), (mVar 8), (mTup (lS [(mConst (.str "not")), (mVar 8)])), (mTup (lS [(mConst (.str "and")), (mTup (lS [(mVar 8), (mTup (lS [(mConst (.str "not")), (mVar 9)]))]))])), (mTup (lS [(mConst (.str "or")), (mTup (lS [(mVar 8), (mVar 9)]))]))])))
  (mSeq
    (mSet 12 (ev2 (mVar 12) (mLst (lS [(mTup (lS [(mConst (.str "like")), (mVar 2), (mVar 5)])), (mTup (lS [(mConst (.str "among")), (mVar 10), (mBi .tuple (lR [(mSortSet (mVar 11))]))])), (mTup (lS [(mConst (.str "or")), (mTup (lS [(mVar 9), (mVar 8), (mVar 9)]))]))])) (dBin .Add)))
  (mSeq
    (mRet (ev2 (mVar 12) (ev2 (ev2 (mVar 0) (mConst (.int 4)) dIx) (mConst (.int 8)) (dBin .Mod)) dIx))
  mSkip))))))))
theorem e__law_condition (cf : Str → List D → Option (D × Bool)) : exs ⟨d__law_condition.N, glOf gs, cf, shT (tabOf ds)⟩ ⟨defScope d__law_condition.st, fun _ => true⟩ 60 (defBody d__law_condition.st) = b__law_condition cf := by kernel_rfl
theorem c__law_condition (k : Nat) (x0 x1 : D) : CF (k + 1) "_law_condition" [x0, x1] = fOut (b__law_condition (CF k) [some ⟨x0, false⟩, some ⟨x1, false⟩, none, none, none, none, none, none, none, none, none, none, none, none, none]) := by
  show runD (glOf gs) (CF k) (shT (tabOf ds)) 60 d__law_condition.df [x0, x1] = _
  unfold runD
  rw [if_pos (by rfl)]
  show fOut (exs ⟨d__law_condition.N, glOf gs, CF k, shT (tabOf ds)⟩ ⟨defScope d__law_condition.st, fun _ => true⟩ 60 (defBody d__law_condition.st) _) = _
  rw [e__law_condition]
  rfl
def b__law_is_rows_l1 (cf : Str → List D → Option (D × Bool)) : MS :=
  (mSeq
    (mIfS (mOr [(mNotT (mTru (ev1 (mVar 4) (dIsaR .str)))), (mBool (ev2 (mVar 4) (mVar 0) (dCmpR .NotIn))), (mBool (ev2 (mVar 4) (mSl (mVar 1) none (some (mVar 3))) (dCmpR .In)))])
      (mSeq
        (mRet (mConst (.bool false)))
      mSkip)
      mSkip)
  mSkip)
abbrev g__law_is_rows_l1 : MG := (gTupD 2 (gsCons (gVar 3) (gsCons (gVar 4) gsNil)))
abbrev i__law_is_rows_l1 (cf : Str → List D → Option (D × Bool)) : ML := (miEnum (lS [(mVar 1)]))
def b__law_is_rows_l2 (cf : Str → List D → Option (D × Bool)) : MS :=
  (mSeq
    (mIfS (mOr [(mNotT (mTru (mCall (cf "_law_is_whole") (lS [(mVar 6)])))), (mNotT (mBool (mChain .LtE .Lt (mConst (.int 0)) (mVar 6) (ev2 (mVar 0) (mVar 4) dIx))))])
      (mSeq
        (mRet (mConst (.bool false)))
      mSkip)
      mSkip)
  mSkip)
abbrev g__law_is_rows_l2 : MG := (gTupD 2 (gsCons (gVar 4) (gsCons (gVar 6) gsNil)))
abbrev i__law_is_rows_l2 (cf : Str → List D → Option (D × Bool)) : ML := (miZip (lS [(mVar 1), (mVar 5)]))
def b__law_is_rows_l3 (cf : Str → List D → Option (D × Bool)) : MS :=
  (mSeq
    (mIfS (mOr [(mNotT (mTru (ev1 (mVar 5) (dIsaR .tuple)))), (mBool (ev2 (mBi .len (lR [(mVar 5)])) (mBi .len (lR [(mVar 1)])) (dCmpR .NotEq)))])
      (mSeq
        (mRet (mConst (.bool false)))
      mSkip)
      mSkip)
  (mSeq
    (mFor (i__law_is_rows_l2 cf) g__law_is_rows_l2 (b__law_is_rows_l2 cf))
  (mSeq
    (mIfS (mAnd [(mBool (ev2 (mVar 3) (mConst (.int 0)) (dCmpR .Gt))), (mNotT (mBool (ev2 (ev2 (mVar 2) (ev2 (mVar 3) (mConst (.int 1)) (dBin .Sub)) dIx) (mVar 5) (dCmpR .Lt))))])
      (mSeq
        (mRet (mConst (.bool false)))
      mSkip)
      mSkip)
  mSkip)))
abbrev g__law_is_rows_l3 : MG := (gTupD 2 (gsCons (gVar 3) (gsCons (gVar 5) gsNil)))
abbrev i__law_is_rows_l3 (cf : Str → List D → Option (D × Bool)) : ML := (miEnum (lS [(mVar 2)]))
def b__law_is_rows (cf : Str → List D → Option (D × Bool)) : MS :=
  (mSeq
    (mIfS (mOr [(mNotT (mTru (ev1 (mVar 1) (dIsaR .tuple)))), (mBool (ev2 (mVar 1) (mTup (lS [])) (dCmpR .Eq))), (mNotT (mTru (ev1 (mVar 2) (dIsaR .tuple))))])
      (mSeq
        (mRet (mConst (.bool false)))
      mSkip)
      mSkip)
  (mSeq
    (mFor (i__law_is_rows_l1 cf) g__law_is_rows_l1 (b__law_is_rows_l1 cf))
  (mSeq
    (mFor (i__law_is_rows_l3 cf) g__law_is_rows_l3 (b__law_is_rows_l3 cf))
  (mSeq
    (mRet (mConst (.bool true)))
  mSkip))))
theorem e__law_is_rows (cf : Str → List D → Option (D × Bool)) : exs ⟨d__law_is_rows.N, glOf gs, cf, shT (tabOf ds)⟩ ⟨defScope d__law_is_rows.st, fun _ => true⟩ 60 (defBody d__law_is_rows.st) = b__law_is_rows cf := by kernel_rfl
theorem c__law_is_rows (k : Nat) (x0 x1 x2 : D) : CF (k + 1) "_law_is_rows" [x0, x1, x2] = fOut (b__law_is_rows (CF k) [some ⟨x0, false⟩, some ⟨x1, false⟩, some ⟨x2, false⟩, none, none, none, none]) := by
  show runD (glOf gs) (CF k) (shT (tabOf ds)) 60 d__law_is_rows.df [x0, x1, x2] = _
  unfold runD
  rw [if_pos (by rfl)]
  show fOut (exs ⟨d__law_is_rows.N, glOf gs, CF k, shT (tabOf ds)⟩ ⟨defScope d__law_is_rows.st, fun _ => true⟩ 60 (defBody d__law_is_rows.st) _) = _
  rw [e__law_is_rows]
  rfl
def b__law_is_condition (cf : Str → List D → Option (D × Bool)) : MS :=
  (mSeq
    (mIfS (mOr [(mBool (ev2 (mVar 2) (mConst (.int 1)) (dCmpR .Lt))), (mNotT (mTru (ev1 (mVar 1) (dIsaR .tuple)))), (mBool (ev2 (mVar 1) (mTup (lS [])) (dCmpR .Eq))), (mNotT (mTru (ev1 (ev2 (mVar 1) (mConst (.int 0)) dIx) (dIsaR .str))))])
      (mSeq
        (mRet (mConst (.bool false)))
      mSkip)
      mSkip)
  (mSeq
    (mIfS (mBool (ev2 (ev2 (mVar 1) (mConst (.int 0)) dIx) (mConst (.str "not")) (dCmpR .Eq)))
      (mSeq
        (mRet (vAnd [(ev2 (mBi .len (lR [(mVar 1)])) (mConst (.int 2)) (dCmpR .Eq)), (mCall (cf "_law_is_condition") (lS [(mVar 0), (ev2 (mVar 1) (mConst (.int 1)) dIx), (ev2 (mVar 2) (mConst (.int 1)) (dBin .Sub))]))]))
      mSkip)
      mSkip)
  (mSeq
    (mIfS (mBool (ev2 (ev2 (mVar 1) (mConst (.int 0)) dIx) (mTup (lS [(mConst (.str "and")), (mConst (.str "or"))])) (dCmpR .In)))
      (mSeq
        (mIfS (mOr [(mBool (ev2 (mBi .len (lR [(mVar 1)])) (mConst (.int 2)) (dCmpR .NotEq))), (mNotT (mTru (ev1 (ev2 (mVar 1) (mConst (.int 1)) dIx) (dIsaR .tuple)))), (mNotT (mBool (mChain .LtE .LtE (mConst (.int 1)) (mBi .len (lR [(ev2 (mVar 1) (mConst (.int 1)) dIx)])) (mConst (.int 8)))))])
          (mSeq
            (mRet (mConst (.bool false)))
          mSkip)
          mSkip)
      (mSeq
        (mRet (ev2 (mLc [0, 2] [4] (miVal (ev2 (mVar 1) (mConst (.int 1)) dIx)) (gVar 4) (mIfs (some (mNotT (mTru (mCall (cf "_law_is_condition") (lS [(mVar 0), (mVar 4), (ev2 (mVar 2) (mConst (.int 1)) (dBin .Sub))])))))) (mVar 4)) (mLst (lS [])) (dCmpR .Eq)))
      mSkip))
      mSkip)
  (mSeq
    (mIfS (mBool (ev2 (ev2 (mVar 1) (mConst (.int 0)) dIx) (mConst (.str "yes")) (dCmpR .Eq)))
      (mSeq
        (mRet (ev2 (mBi .len (lR [(mVar 1)])) (mConst (.int 1)) (dCmpR .Eq)))
      mSkip)
      mSkip)
  (mSeq
    (mSet 3 (mFn dDict (lR [(mLc [] [5, 6, 7] (miVal (mVar 0)) (gTupD 3 (gsCons (gVar 5) (gsCons (gVar 6) (gsCons (gVar 7) gsNil)))) (mIfs none) (mTup (lS [(mVar 5), (mVar 6)])))])))
  (mSeq
    (mIfS (mBool (ev2 (mBi .len (lR [(mVar 1)])) (mConst (.int 3)) (dCmpR .NotEq)))
      (mSeq
        (mRet (mConst (.bool false)))
      mSkip)
      mSkip)
  (mSeq
    (mIfS (mBool (ev2 (ev2 (mVar 1) (mConst (.int 0)) dIx) (mConst (.str "among")) (dCmpR .Eq)))
      (mSeq
        (mRet (mCall (cf "_law_is_rows") (lS [(mVar 3), (ev2 (mVar 1) (mConst (.int 1)) dIx), (ev2 (mVar 1) (mConst (.int 2)) dIx)])))
      mSkip)
      mSkip)
  (mSeq
    (mIfS (mOr [(mNotT (mTru (ev1 (ev2 (mVar 1) (mConst (.int 1)) dIx) (dIsaR .str)))), (mBool (ev2 (ev2 (mVar 1) (mConst (.int 1)) dIx) (mVar 3) (dCmpR .NotIn)))])
      (mSeq
        (mRet (mConst (.bool false)))
      mSkip)
      mSkip)
  (mSeq
    (mIfS (mBool (ev2 (ev2 (mVar 1) (mConst (.int 0)) dIx) (mConst (.str "is")) (dCmpR .Eq)))
      (mSeq
        (mRet (vAnd [(mCall (cf "_law_is_whole") (lS [(ev2 (mVar 1) (mConst (.int 2)) dIx)])), (mChain .LtE .Lt (mConst (.int 0)) (ev2 (mVar 1) (mConst (.int 2)) dIx) (ev2 (mVar 3) (ev2 (mVar 1) (mConst (.int 1)) dIx) dIx))]))
      mSkip)
      mSkip)
  (mSeq
    (mRet (vAnd [(ev2 (ev2 (mVar 1) (mConst (.int 0)) dIx) (mConst (.str "like")) (dCmpR .Eq)), (ev1 (ev2 (mVar 1) (mConst (.int 2)) dIx) (dIsaR .str)), (ev2 (ev2 (mVar 1) (mConst (.int 2)) dIx) (mVar 3) (dCmpR .In))]))
  mSkip))))))))))
theorem e__law_is_condition (cf : Str → List D → Option (D × Bool)) : exs ⟨d__law_is_condition.N, glOf gs, cf, shT (tabOf ds)⟩ ⟨defScope d__law_is_condition.st, fun _ => true⟩ 60 (defBody d__law_is_condition.st) = b__law_is_condition cf := by kernel_rfl
theorem c__law_is_condition (k : Nat) (x0 x1 x2 : D) : CF (k + 1) "_law_is_condition" [x0, x1, x2] = fOut (b__law_is_condition (CF k) [some ⟨x0, false⟩, some ⟨x1, false⟩, some ⟨x2, false⟩, none, none, none, none, none]) := by
  show runD (glOf gs) (CF k) (shT (tabOf ds)) 60 d__law_is_condition.df [x0, x1, x2] = _
  unfold runD
  rw [if_pos (by rfl)]
  show fOut (exs ⟨d__law_is_condition.N, glOf gs, CF k, shT (tabOf ds)⟩ ⟨defScope d__law_is_condition.st, fun _ => true⟩ 60 (defBody d__law_is_condition.st) _) = _
  rw [e__law_is_condition]
  rfl
def b__law_tree (cf : Str → List D → Option (D × Bool)) : MS :=
  (mSeq
    (mIfS (mOr [(mBool (ev2 (mVar 2) (mConst (.int 2)) (dCmpR .Lt))), (mBool (ev2 (ev2 (ev2 (mVar 0) (mConst (.int 0)) dIx) (mConst (.int 4)) (dBin .Mod)) (mConst (.int 0)) (dCmpR .Eq)))])
      (mSeq
        (mRet (mSl (mCall (cf "_law_condition") (lS [(mSl (mVar 0) (some (mConst (.int 1))) none), (mVar 1)])) none (some (mConst (.int 3)))))
      mSkip)
      mSkip)
  (mSeq
    (mIfS (mBool (ev2 (ev2 (ev2 (mVar 0) (mConst (.int 0)) dIx) (mConst (.int 4)) (dBin .Mod)) (mConst (.int 1)) (dCmpR .Eq)))
      (mSeq
        (mRet (mTup (lS [(mConst (.str "not")), (mCall (cf "_law_tree") (lS [(mSl (mVar 0) (some (mConst (.int 5))) none), (mVar 1), (ev2 (mVar 2) (mConst (.int 1)) (dBin .Sub))]))])))
      mSkip)
      mSkip)
  (mSeq
    (mSet 3 (mLc [1, 0, 2] [4] (miRange (lS [(ev2 (mConst (.int 1)) (ev2 (ev2 (mVar 0) (mConst (.int 1)) dIx) (mConst (.int 2)) (dBin .Mod)) (dBin .Add))])) (gVar 4) (mIfs none) (mCall (cf "_law_tree") (lS [(mSl (mVar 0) (some (ev2 (mConst (.int 5)) (ev2 (mConst (.int 3)) (mVar 4) (dBin .Mult)) (dBin .Add))) none), (mVar 1), (ev2 (mVar 2) (mConst (.int 1)) (dBin .Sub))]))))
  (mSeq
    (mRet (mTup (lS [(ev2 (mLst (lS [(mConst (.str "and")), (mConst (.str "or"))])) (ev2 (ev2 (mVar 0) (mConst (.int 0)) dIx) (mConst (.int 2)) (dBin .Mod)) dIx), (mBi .tuple (lR [(mVar 3)]))])))
  mSkip))))
theorem e__law_tree (cf : Str → List D → Option (D × Bool)) : exs ⟨d__law_tree.N, glOf gs, cf, shT (tabOf ds)⟩ ⟨defScope d__law_tree.st, fun _ => true⟩ 60 (defBody d__law_tree.st) = b__law_tree cf := by kernel_rfl
theorem c__law_tree (k : Nat) (x0 x1 x2 : D) : CF (k + 1) "_law_tree" [x0, x1, x2] = fOut (b__law_tree (CF k) [some ⟨x0, false⟩, some ⟨x1, false⟩, some ⟨x2, false⟩, none, none]) := by
  show runD (glOf gs) (CF k) (shT (tabOf ds)) 60 d__law_tree.df [x0, x1, x2] = _
  unfold runD
  rw [if_pos (by rfl)]
  show fOut (exs ⟨d__law_tree.N, glOf gs, CF k, shT (tabOf ds)⟩ ⟨defScope d__law_tree.st, fun _ => true⟩ 60 (defBody d__law_tree.st) _) = _
  rw [e__law_tree]
  rfl
def b__law_deep_l1 (cf : Str → List D → Option (D × Bool)) : MS :=
  (mSeq
    (mSet 2 (ev2 (mLst (lS [(mTup (lS [(mConst (.str "not")), (mVar 2)])), (mTup (lS [(mConst (.str "and")), (mTup (lS [(mVar 2), (mTup (lS [(mConst (.str "yes"))]))]))])), (mTup (lS [(mConst (.str "or")), (mTup (lS [(mVar 2)]))]))])) (ev2 (mVar 3) (mConst (.int 3)) (dBin .Mod)) dIx))
  mSkip)
abbrev g__law_deep_l1 : MG := (gVar 3)
abbrev i__law_deep_l1 (cf : Str → List D → Option (D × Bool)) : ML := (miRange (lS [(mVar 0)]))
def b__law_deep (cf : Str → List D → Option (D × Bool)) : MS :=
  (mSeq
    (mSet 2 (mVar 1))
  (mSeq
    (mFor (i__law_deep_l1 cf) g__law_deep_l1 (b__law_deep_l1 cf))
  (mSeq
    (mRet (mVar 2))
  mSkip)))
theorem e__law_deep (cf : Str → List D → Option (D × Bool)) : exs ⟨d__law_deep.N, glOf gs, cf, shT (tabOf ds)⟩ ⟨defScope d__law_deep.st, fun _ => true⟩ 60 (defBody d__law_deep.st) = b__law_deep cf := by kernel_rfl
theorem c__law_deep (k : Nat) (x0 x1 : D) : CF (k + 1) "_law_deep" [x0, x1] = fOut (b__law_deep (CF k) [some ⟨x0, false⟩, some ⟨x1, false⟩, none, none]) := by
  show runD (glOf gs) (CF k) (shT (tabOf ds)) 60 d__law_deep.df [x0, x1] = _
  unfold runD
  rw [if_pos (by rfl)]
  show fOut (exs ⟨d__law_deep.N, glOf gs, CF k, shT (tabOf ds)⟩ ⟨defScope d__law_deep.st, fun _ => true⟩ 60 (defBody d__law_deep.st) _) = _
  rw [e__law_deep]
  rfl
def b__law_within (cf : Str → List D → Option (D × Bool)) : MS :=
  (mSeq
    (mIfS (mOr [(mBool (ev2 (ev2 (ev2 (mVar 1) (mConst (.int 0)) dIx) (mConst (.int 3)) (dBin .Mod)) (mConst (.int 0)) (dCmpR .Eq))), (mBool (ev2 (ev2 (mVar 0) (mConst (.int 0)) dIx) (mTup (lS [(mConst (.str "not")), (mConst (.str "and")), (mConst (.str "or"))])) (dCmpR .NotIn)))])
      (mSeq
        (mSet 3 (ev2 (ev2 (mVar 1) (mConst (.int 1)) dIx) (mBi .len (lR [(mVar 0)])) (dBin .Mod)))
      (mSeq
        (mRet (ev2 (mLst (lS [(ev2 (ev2 (mSl (mVar 0) none (some (mVar 3))) (mTup (lS [(mVar 2)])) (dBin .Add)) (mSl (mVar 0) (some (ev2 (mVar 3) (mConst (.int 1)) (dBin .Add))) none) (dBin .Add)), (ev2 (mVar 0) (mTup (lS [(mVar 2)])) (dBin .Add)), (mSl (mVar 0) none (some (ev1 (mConst (.int 1)) dNeg))), (mBi .list (lR [(mVar 0)])), (mVar 2)])) (ev2 (ev2 (mVar 1) (mConst (.int 2)) dIx) (mConst (.int 5)) (dBin .Mod)) dIx))
      mSkip))
      mSkip)
  (mSeq
    (mIfS (mBool (ev2 (ev2 (mVar 0) (mConst (.int 0)) dIx) (mConst (.str "not")) (dCmpR .Eq)))
      (mSeq
        (mRet (mTup (lS [(mConst (.str "not")), (mCall (cf "_law_within") (lS [(ev2 (mVar 0) (mConst (.int 1)) dIx), (mSl (mVar 1) (some (mConst (.int 3))) none), (mVar 2)]))])))
      mSkip)
      mSkip)
  (mSeq
    (mSet 3 (ev2 (ev2 (mVar 1) (mConst (.int 1)) dIx) (mBi .len (lR [(ev2 (mVar 0) (mConst (.int 1)) dIx)])) (dBin .Mod)))
  (mSeq
    (mSet 4 (mCall (cf "_law_within") (lS [(ev2 (ev2 (mVar 0) (mConst (.int 1)) dIx) (mVar 3) dIx), (mSl (mVar 1) (some (mConst (.int 3))) none), (mVar 2)])))
  (mSeq
    (mRet (mTup (lS [(ev2 (mVar 0) (mConst (.int 0)) dIx), (ev2 (ev2 (mSl (ev2 (mVar 0) (mConst (.int 1)) dIx) none (some (mVar 3))) (mTup (lS [(mVar 4)])) (dBin .Add)) (mSl (ev2 (mVar 0) (mConst (.int 1)) dIx) (some (ev2 (mVar 3) (mConst (.int 1)) (dBin .Add))) none) (dBin .Add))])))
  mSkip)))))
theorem e__law_within (cf : Str → List D → Option (D × Bool)) : exs ⟨d__law_within.N, glOf gs, cf, shT (tabOf ds)⟩ ⟨defScope d__law_within.st, fun _ => true⟩ 60 (defBody d__law_within.st) = b__law_within cf := by kernel_rfl
theorem c__law_within (k : Nat) (x0 x1 x2 : D) : CF (k + 1) "_law_within" [x0, x1, x2] = fOut (b__law_within (CF k) [some ⟨x0, false⟩, some ⟨x1, false⟩, some ⟨x2, false⟩, none, none]) := by
  show runD (glOf gs) (CF k) (shT (tabOf ds)) 60 d__law_within.df [x0, x1, x2] = _
  unfold runD
  rw [if_pos (by rfl)]
  show fOut (exs ⟨d__law_within.N, glOf gs, CF k, shT (tabOf ds)⟩ ⟨defScope d__law_within.st, fun _ => true⟩ 60 (defBody d__law_within.st) _) = _
  rw [e__law_within]
  rfl
def b__law_rows (cf : Str → List D → Option (D × Bool)) : MS :=
  (mSeq
    (mAsg (ev2 (mVar 0) (ev2 (ev2 (mVar 1) (mConst (.int 0)) dIx) (mBi .len (lR [(mVar 0)])) (dBin .Mod)) dIx) (gTupD 3 (gsCons (gVar 2) (gsCons (gVar 3) (gsCons (gVar 4) gsNil)))))
  (mSeq
    (mSet 5 (mBi .tuple (lR [(mLc [] [9] (miRange (lS [(mVar 3)])) (gVar 9) (mIfs none) (mTup (lS [(mVar 9)])))])))
  (mSeq
    (mSet 6 (mCall (cf "_law_odd") (lS [(ev2 (mVar 1) (mConst (.int 1)) dIx)])))
  (mSeq
    (mSet 7 (mLst (lS [(mTup (lS [(mConst (.str "among")), (mTup (lS [(mVar 2)])), (mVar 5)])), (mTup (lS [(mConst (.str "among")), (mTup (lS [(mVar 2)])), (mTup (lS []))])), (mTup (lS [(mConst (.str "among")), (mTup (lS [(mVar 2)])), (ev1 (mVar 5) dRev)])), (mTup (lS [(mConst (.str "among")), (mTup (lS [])), (mTup (lS []))]))])))
  (mSeq
    (mSet 7 (ev2 (mVar 7) (mLst (lS [(mTup (lS [(mConst (.str "among")), (mTup (lS [(mVar 2)])), (ev2 (mSl (mVar 5) none (some (mConst (.int 1)))) (mConst (.int 2)) (dBin .Mult))])), (mTup (lS [(mConst (.str "among")), (mTup (lS [(mVar 2), (mVar 2)])), (mTup (lS []))])), (mTup (lS [(mConst (.str "among")), (mTup (lS [(mVar 2)])), (mTup (lS [(mTup (lS [(mVar 3)]))]))]))])) (dBin .Add)))
  (mSeq
    (mSet 7 (ev2 (mVar 7) (mLst (lS [(mTup (lS [(mConst (.str "among")), (mTup (lS [(mVar 2)])), (mTup (lS [(mVar 6)]))])), (mTup (lS [(mConst (.str "among")), (mTup (lS [(mVar 6)])), (mTup (lS []))])), (mTup (lS [(mConst (.str "among")), (mLst (lS [(mVar 2)])), (mTup (lS []))])), (mTup (lS [(mConst (.str "among")), (mTup (lS [(mVar 2)])), (mLst (lS []))]))])) (dBin .Add)))
  (mSeq
    (mSet 7 (ev2 (mVar 7) (mLst (lS [(mTup (lS [(mConst (.str "among")), (mTup (lS [(mVar 2)])), (mTup (lS [(mTup (lS [(mConst (.bool true))]))]))])), (mTup (lS [(mConst (.str "among")), (mTup (lS [(mVar 2)])), (mTup (lS [(mTup (lS [(mConst (.int 0)), (mConst (.int 0))]))]))])), (mTup (lS [(mConst (.str "among")), (mTup (lS [(mConst (.str "zz"))])), (mTup (lS []))])), (mTup (lS [(mConst (.str "among"))]))])) (dBin .Add)))
  (mSeq
    (mSet 8 (mBi .tuple (lR [(mLc [] [10] (miVal (mVar 0)) (gVar 10) (mIfs none) (ev2 (mVar 10) (mConst (.int 0)) dIx))])))
  (mSeq
    (mRet (ev2 (mVar 7) (mLst (lS [(mTup (lS [(mConst (.str "among")), (mVar 8), (mBi .tuple (lR [(mCall (cf "_law_all") (lS [(mVar 0)]))]))])), (mTup (lS [(mConst (.str "among")), (ev1 (mVar 8) dRev), (mTup (lS [(ev2 (mTup (lS [(mConst (.int 0))])) (mBi .len (lR [(mVar 8)])) (dBin .Mult))]))]))])) (dBin .Add)))
  mSkip)))))))))
theorem e__law_rows (cf : Str → List D → Option (D × Bool)) : exs ⟨d__law_rows.N, glOf gs, cf, shT (tabOf ds)⟩ ⟨defScope d__law_rows.st, fun _ => true⟩ 60 (defBody d__law_rows.st) = b__law_rows cf := by kernel_rfl
theorem c__law_rows (k : Nat) (x0 x1 : D) : CF (k + 1) "_law_rows" [x0, x1] = fOut (b__law_rows (CF k) [some ⟨x0, false⟩, some ⟨x1, false⟩, none, none, none, none, none, none, none, none, none]) := by
  show runD (glOf gs) (CF k) (shT (tabOf ds)) 60 d__law_rows.df [x0, x1] = _
  unfold runD
  rw [if_pos (by rfl)]
  show fOut (exs ⟨d__law_rows.N, glOf gs, CF k, shT (tabOf ds)⟩ ⟨defScope d__law_rows.st, fun _ => true⟩ 60 (defBody d__law_rows.st) _) = _
  rw [e__law_rows]
  rfl
def b__law_right_l1 (cf : Str → List D → Option (D × Bool)) : MS :=
  (mSeq
    (mIfS (mBool (ev2 (mBi .repr (lR [(mCallS (cf "is_condition") sh_is_condition_0 (lS [(mVar 0), (mVar 8)]) (lS [(mVar 10)]))])) (mBi .repr (lR [(mCall (cf "_law_is_condition") (lS [(mVar 0), (mVar 8), (mVar 10)]))])) (dCmpR .NotEq)))
      (mSeq
        (mRet (mConst (.bool false)))
      mSkip)
      mSkip)
  mSkip)
abbrev g__law_right_l1 : MG := (gVar 10)
abbrev i__law_right_l1 (cf : Str → List D → Option (D × Bool)) : ML := (miVal (mLst (lS [(mConst (.int 1)), (mConst (.int 4)), (mConst (.int 5)), (mConst (.int 8))])))
def b__law_right_l2 (cf : Str → List D → Option (D × Bool)) : MS :=
  (mSeq
    (mSet 9 (mBi .repr (lR [(mLst (lS [(mVar 0), (mVar 8)]))])))
  (mSeq
    (mFor (i__law_right_l1 cf) g__law_right_l1 (b__law_right_l1 cf))
  (mSeq
    (mIfS (mBool (ev2 (mBi .repr (lR [(mCallS (cf "is_condition") sh_is_condition_1 (lS [(mVar 0), (mVar 8)]) (lS []))])) (mBi .repr (lR [(mCall (cf "_law_is_condition") (lS [(mVar 0), (mVar 8), (mConst (.int 5))]))])) (dCmpR .NotEq)))
      (mSeq
        (mRet (mConst (.bool false)))
      mSkip)
      mSkip)
  (mSeq
    (mIfS (mBool (ev2 (mBi .repr (lR [(mLst (lS [(mVar 0), (mVar 8)]))])) (mVar 9) (dCmpR .NotEq)))
      (mSeq
        (mRet (mConst (.bool false)))
      mSkip)
      mSkip)
  mSkip))))
abbrev g__law_right_l2 : MG := (gVar 8)
abbrev i__law_right_l2 (cf : Str → List D → Option (D × Bool)) : ML := (miVal (ev2 (mVar 7) (mCall (cf "_law_rows") (lS [(mVar 0), (mSl (mVar 1) (some (mConst (.int 65))) none)])) (dBin .Add)))
def b__law_right (cf : Str → List D → Option (D × Bool)) : MS :=
  (mSeq
    (mSet 2 (mCall (cf "_law_tree") (lS [(mVar 1), (mVar 0), (mConst (.int 5))])))
  (mSeq
    (mAsg (ev2 (mVar 0) (ev2 (ev2 (mVar 1) (mConst (.int 60)) dIx) (mBi .len (lR [(mVar 0)])) (dBin .Mod)) dIx) (gTupD 3 (gsCons (gVar 3) (gsCons (gVar 4) (gsCons (gVar 5) gsNil)))))
  (mSeq
    (mSet 6 (ev2 (mLst (lS [(mCall (cf "_law_odd") (lS [(ev2 (mVar 1) (mConst (.int 61)) dIx)])), (mConst (.str "zz")), (mConst (.str "A")), (mVar 4), (ev1 (mConst (.int 1)) dNeg), (mConst (.str "is")), (mConst (.str "like")), (mTup (lS [(mConst (.str "is")), (mVar 3), (mVar 4)])), (mVar 3), (mConst (.int 0))])) (ev2 (ev2 (mVar 1) (mConst (.int 62)) dIx) (mConst (.int 10)) (dBin .Mod)) dIx))
  (mSeq
    (mSet 7 (mLst (lS [(mVar 2), (mCall (cf "_law_within") (lS [(mVar 2), (mSl (mVar 1) (some (mConst (.int 63))) none), (mVar 6)])), (mTup (lS [(mConst (.str "is")), (mVar 3), (ev2 (mVar 4) (mConst (.int 1)) (dBin .Sub))])), (mTup (lS [(mConst (.str "is")), (mVar 3), (mVar 4)])), (mTup (lS [(mConst (.str "is")), (mVar 3), (ev1 (mConst (.int 1)) dNeg)]))])))
  (mSeq
    (mSet 7 (ev2 (mVar 7) (mLst (lS [(mTup (lS [(mConst (.str "is")), (mVar 3), (mConst (.bool false))])), (mTup (lS [(mConst (.str "like")), (mVar 3), (mConst (.str "zz"))])), (mTup (lS [(mConst (.str "like")), (mVar 3), (mVar 3)])), (mTup (lS [(mConst (.str "and")), (mTup (lS []))])), (mTup (lS [(mConst (.str "or")), (ev2 (mTup (lS [(mVar 2)])) (mConst (.int 9)) (dBin .Mult))]))])) (dBin .Add)))
  (mSeq
    (mSet 7 (ev2 (mVar 7) (mLst (lS [(mTup (lS [(mConst (.str "or")), (ev2 (mTup (lS [(mVar 2)])) (mConst (.int 8)) (dBin .Mult))])), (mTup (lS [(mConst (.str "and")), (mLst (lS [(mVar 2)]))])), (mTup (lS [(mConst (.str "yes")), (mVar 3)])), (mTup (lS [(mConst (.str "not")), (mVar 2), (mVar 2)])), (mTup (lS [(mConst (.str "no"))])), (mTup (lS [(mConst (.str "and")), (mVar 2)]))])) (dBin .Add)))
  (mSeq
    (mSet 7 (ev2 (mVar 7) (mLc [3] [11] (miRange (lS [(mConst (.int 9))])) (gVar 11) (mIfs none) (mCall (cf "_law_deep") (lS [(mVar 11), (mTup (lS [(mConst (.str "is")), (mVar 3), (mConst (.int 0))]))]))) (dBin .Add)))
  (mSeq
    (mSet 7 (ev2 (mVar 7) (mLst (lS [(mCall (cf "_law_odd") (lS [(ev2 (mVar 1) (mConst (.int 64)) dIx)])), (mTup (lS [(mConst (.str "is")), (mLst (lS [(mVar 3)])), (mConst (.int 0))]))])) (dBin .Add)))
  (mSeq
    (mFor (i__law_right_l2 cf) g__law_right_l2 (b__law_right_l2 cf))
  (mSeq
    (mRet (ev2 (mCallS (cf "is_condition") sh_is_condition_0 (lS [(mVar 0), (mVar 2)]) (lS [(mConst (.int 8))])) (mConst (.bool true)) (dCmpR .Is)))
  mSkip))))))))))
theorem e__law_right (cf : Str → List D → Option (D × Bool)) : exs ⟨d__law_right.N, glOf gs, cf, shT (tabOf ds)⟩ ⟨defScope d__law_right.st, fun _ => true⟩ 60 (defBody d__law_right.st) = b__law_right cf := by kernel_rfl
theorem c__law_right (k : Nat) (x0 x1 : D) : CF (k + 1) "_law_right" [x0, x1] = fOut (b__law_right (CF k) [some ⟨x0, false⟩, some ⟨x1, false⟩, none, none, none, none, none, none, none, none, none, none]) := by
  show runD (glOf gs) (CF k) (shT (tabOf ds)) 60 d__law_right.df [x0, x1] = _
  unfold runD
  rw [if_pos (by rfl)]
  show fOut (exs ⟨d__law_right.N, glOf gs, CF k, shT (tabOf ds)⟩ ⟨defScope d__law_right.st, fun _ => true⟩ 60 (defBody d__law_right.st) _) = _
  rw [e__law_right]
  rfl
def b_law_l1 (cf : Str → List D → Option (D × Bool)) : MS :=
  (mSeq
    (mSet 3 (mCall (cf "_law_numbers") (lS [(mVar 2), (ev2 (mConst (.int 200)) (mVar 1) (dBin .Add)), (ev2 (mLst (lS [(mConst (.int 420))])) (mConst (.int 90)) (dBin .Mult))])))
  (mSeq
    (mIfS (mNotT (mTru (mCall (cf "_law_right") (lS [(mCall (cf "_law_boxes") (lS [(mSl (mVar 3) (some (mConst (.int 80))) none)])), (mVar 3)]))))
      (mSeq
        (mRet (mConst (.bool false)))
      mSkip)
      mSkip)
  mSkip))
abbrev g_law_l1 : MG := (gTupD 2 (gsCons (gVar 1) (gsCons (gVar 2) gsNil)))
abbrev i_law_l1 (cf : Str → List D → Option (D × Bool)) : ML := (miEnum (lS [(ev2 (mSl (mVar 0) none (some (mConst (.int 10)))) (ev2 (mLst (lS [(mConst (.int 7))])) (mBi .int (lR [(ev2 (mVar 0) (mLst (lS [])) (dCmpR .Eq))])) (dBin .Mult)) (dBin .Add))]))
def b_law (cf : Str → List D → Option (D × Bool)) : MS :=
  (mSeq
    (mFor (i_law_l1 cf) g_law_l1 (b_law_l1 cf))
  (mSeq
    (mRet (mConst (.bool true)))
  mSkip))
theorem e_law (cf : Str → List D → Option (D × Bool)) : exs ⟨d_law.N, glOf gs, cf, shT (tabOf ds)⟩ ⟨defScope d_law.st, fun _ => true⟩ 60 (defBody d_law.st) = b_law cf := by kernel_rfl
theorem c_law (k : Nat) (x0 : D) : CF (k + 1) "law" [x0] = fOut (b_law (CF k) [some ⟨x0, false⟩, none, none, none]) := by
  show runD (glOf gs) (CF k) (shT (tabOf ds)) 60 d_law.df [x0] = _
  unfold runD
  rw [if_pos (by rfl)]
  show fOut (exs ⟨d_law.N, glOf gs, CF k, shT (tabOf ds)⟩ ⟨defScope d_law.st, fun _ => true⟩ 60 (defBody d_law.st) _) = _
  rw [e_law]
  rfl
end K02
set_option Elab.async false
set_option linter.all false
set_option maxRecDepth 100000
set_option maxHeartbeats 1000000
set_option autoImplicit false
namespace K02
open PySem PySem.Spec PyProof.Rows L2 HC
structure Bx where
  name : Str
  size : Int
  kind : Str
def Bx.d (b : Bx) : D := .tuple [.str b.name, .int b.size, .str b.kind]
theorem p_names_of (k : Nat) (bs : List Bx) : CF (k + 1) "names_of" [.list (bs.map Bx.d)] = some (.list (bs.map fun b => .str b.name), true) := by
  rw [c_names_of]
  refine Eq.trans (oRt (eSeqR (eRet (eLc (eItV (eVarS rfl) rfl) (lcLoop_map (g := fun b => .str b.name) fun b _ => ?_))))) ?_
  · rfl
  · rfl
theorem fm_find (n : Str) (b : Bx) : ∀ bs : List Bx, bs.find? (fun b => b.name == n) = some b → (bs.filterMap fun b => if (b.name == n) = true then some (PyData.int b.size) else none)[0]? = some (.int b.size)
  | [], h => by cases h
  | x :: bs, h => by
    rw [List.find?_cons] at h
    rw [List.filterMap_cons]
    cases q : (x.name == n) with
    | true =>
      rw [q] at h
      cases h
      rfl
    | false =>
      rw [q] at h
      exact fm_find n b bs h
theorem p_size_of (k : Nat) (bs : List Bx) (n : Str) (b : Bx) (h : bs.find? (fun b => b.name == n) = some b) : CF (k + 1) "size_of" [.list (bs.map Bx.d), .str n] = some (.int b.size, false) := by
  rw [c_size_of]
  refine Eq.trans (oRt (eSeqR (eRet (eV2 (eLc (eItV (eVarS rfl) rfl) (lcLoop_fm (g := fun b => if (b.name == n) = true then some (.int b.size) else none) fun b _ => ?_)) eCon (eIxL (j := 0) (fm_find n b bs h)))))) rfl
  unfold Bx.d
  simp only [mLenSet, mScL, mSetL, mFn, mGet2, dGet1, mSeq, mRet, mVar, mConst, ev1, ev2, mBool, mTru, mIfS, mIf, mSet, mAsg, mSetI, mMeth, mBi, mCall, mTup, mLst, mSl, mPart, mAnd, mOr, mNotT, vAnd, vOr, mSkip, mIfs, mChain, miVal, miRange, miEnum, mLc, lS, lR, gVar, gTupD, gsCons, gsNil, shEnv, shIdx, inner, hideOwn, wipeE, kOf, frOf, fOut, List.getElem?_cons_zero, List.getElem?_cons_succ, List.getElem?_nil, List.set_cons_zero, List.set_cons_succ, List.map_cons, List.map_nil, List.length_cons, List.length_nil, Bool.false_eq_true, ↓reduceIte, Nat.reduceAdd, lc1, iterD, dBi, dCmpR, dCmp, dEq, okEq, scalD, PyData.eqv, Bool.true_or, dTru, dIsaR, dIsa, ]
  cases q : (b.name == n) <;> rfl
/-- where a name stands -/
def place (bs : List Bx) (n : Str) : Option Nat := bs.findIdx? (fun b => b.name == n)
theorem first_ix {n : Str} : ∀ {ns : List Str}, firstIx (fun z => PyData.eqv z (.str n)) (ns.map PyData.str) = ns.findIdx? (fun x => x == n)
  | [] => rfl
  | x :: ns => by
    have h : PyData.eqv (.str x) (.str n) = (x == n) := by simp only [PyData.eqv]
    rw [List.map_cons, firstIx, first_ix, List.findIdx?_cons, h]
/-- names of a kind that lie well -/
def NOk (bs : List Bx) : Prop := ∀ b ∈ bs, Nice 0 8 (.str b.name)
theorem names_shaped {bs : List Bx} (h : NOk bs) : SeqAt.shaped (.list (bs.map fun b => PyData.str b.name)) = true := by
  refine (Nice.list (a := 0) (b := 8) fun d hd => ?_).shaped (by decide)
  obtain ⟨b, hb, rfl⟩ := List.mem_map.mp hd
  exact h b hb
theorem place_mem {bs : List Bx} {n : Str} {j : Nat} (h : place bs n = some j) : ∃ b, bs[j]? = some b ∧ b.name = n := by
  unfold place at h
  obtain ⟨hj, h1, _⟩ := List.findIdx?_eq_some_iff_getElem.mp h
  exact ⟨bs[j], List.getElem?_eq_getElem hj, eq_of_beq h1⟩
theorem ix_of {bs : List Bx} {n : Str} {j : Nat} (ok : NOk bs) (h : place bs n = some j) : dIndex (.list (bs.map fun b => PyData.str b.name)) (.str n) = some (.int j, false) := by
  have e : (bs.map fun b => PyData.str b.name) = (bs.map Bx.name).map PyData.str := by rw [List.map_map]; rfl
  obtain ⟨b, hb, rfl⟩ := place_mem h
  simp only [dIndex]
  rw [if_pos ⟨(ok b (List.mem_of_getElem? hb)).shaped (by decide), names_shaped ok⟩, e, first_ix, List.findIdx?_map]
  have h' : List.findIdx? ((fun x => x == b.name) ∘ Bx.name) bs = some j := h
  rw [h']
/-! ### sources, changes -/
inductive Src where
  | to (v : Int) | of (n : Str) | on (v : Int)
def Src.d : Src → D
  | .to v => .tuple [.str "to", .int v]
  | .of n => .tuple [.str "of", .str n]
  | .on v => .tuple [.str "on", .int v]
structure Ch where
  name : Str
  src : Src
def Ch.d (c : Ch) : D := .tuple [.str c.name, c.src.d]
/-- what a source tells for the box b, which stands at i -/
def tells (bs : List Bx) (ws : List Int) (i : Nat) (b : Bx) : Src → Option Int
  | .to v => some v
  | .of n => (match place bs n with
    | some j => ws[j]?
    | none => none)
  | .on v => (match ws[i]? with
    | some w => if 0 < b.size then some ((w + v) % b.size) else none
    | none => none)
/-- b stands at i, by its name -/
structure At (bs : List Bx) (i : Nat) (b : Bx) : Prop where
  pl : place bs b.name = some i
  ix : bs[i]? = some b
  fd : bs.find? (fun x => x.name == b.name) = some b
theorem ixT_int {ws : List Int} {j : Nat} {w : Int} (h : ws[j]? = some w) : dIx (.tuple (ws.map PyData.int)) (.int j) = some (.int w, false) := eIxT (by rw [List.getElem?_map, h]; rfl)
/-! ### changed -/
def val (bs : List Bx) (ws : List Int) (cs : List Ch) (i : Nat) (b : Bx) : Int := cs.foldl (fun w c => if (c.name == b.name) = true then (tells bs ws i b c.src).getD 0 else w) (ws.getD i 0)
def dueP (bs : List Bx) (ws : List Int) (cs : List Ch) : List Int := bs.zipIdx.map fun p => val bs ws cs p.2 p.1
/-- the boxes' names are all unlike -/
def Dist (bs : List Bx) : Prop := ∀ i b, bs[i]? = some b → At bs i b
def CsOk (bs : List Bx) (ws : List Int) (cs : List Ch) : Prop := ∀ c ∈ cs, ∃ i b v, At bs i b ∧ b.name = c.name ∧ tells bs ws i b c.src = some v
theorem val_snoc {bs : List Bx} {ws : List Int} {cs : List Ch} {c : Ch} {i : Nat} {b : Bx} : val bs ws (cs ++ [c]) i b = if (c.name == b.name) = true then (tells bs ws i b c.src).getD 0 else val bs ws cs i b := by
  unfold val
  rw [List.foldl_append]
  rfl
theorem zip_get {bs : List Bx} {i : Nat} {b : Bx} : (b, i) ∈ bs.zipIdx ↔ bs[i]? = some b := by
  rw [List.mem_zipIdx_iff_getElem?]
theorem due_of {bs : List Bx} {ws f : List Int} {cs : List Ch} (hl : f.length = bs.length) (h : ∀ i b, bs[i]? = some b → f[i]? = some (val bs ws cs i b)) : f = dueP bs ws cs := by
  refine List.ext_getElem? fun i => ?_
  unfold dueP
  rw [List.getElem?_map, List.getElem?_zipIdx]
  cases q : bs[i]? with
  | none =>
    have : f.length ≤ i := by rw [hl]; exact List.getElem?_eq_none_iff.mp q
    rw [List.getElem?_eq_none this]
    rfl
  | some b =>
    rw [h i b q]
    simp
theorem set_int {f : List Int} {j : Nat} {v : Int} (h : j < f.length) : dSetI (.list (f.map PyData.int)) (.int j) (.int v) = some (.list ((f.set j v).map PyData.int)) := by
  have : ixN (f.map PyData.int).length (j : Int) = some j := by
    unfold ixN
    rw [if_pos (Int.natCast_nonneg j), List.length_map, if_pos (by exact_mod_cast h)]
    simp
  simp only [dSetI, this, List.map_set]
end K02
set_option Elab.async false
set_option linter.all false
set_option maxRecDepth 100000
set_option maxHeartbeats 1000000
set_option autoImplicit false
namespace K02
open PySem PySem.Spec PyProof.Rows L2 HC
theorem ixRep {n j : Nat} {m : Int} (h : j < n) : dIx (.list ((List.replicate n m).map PyData.int)) (.int j) = some (.int m, false) := eIxL (by rw [List.map_replicate, List.getElem?_replicate, if_pos h])
theorem mod_lt {i m : Int} (h : 0 < m) : 0 ≤ i % m ∧ i % m < m := ⟨Int.emod_nonneg _ (by omega), Int.emod_lt_of_pos _ h⟩
theorem abs_lt {i : Int} (h0 : 0 ≤ i) (h : i < 9223372036854775808) : i.natAbs < 2 ^ 64 := by omega
/-- one turn -/
theorem num_turn (cf : Str → List D → Option (D × Bool)) (c salt m number left : Int) (n j : Nat) (es : List Int) (k1 : Option Sl) (h0 : 0 ≤ salt) (h1 : salt < 100000) (hm : 0 < m) (hm2 : m < 1073741824) (hj : j < n) (hn : n ≤ 200) (hl : 0 ≤ left) (he : es.length < 200) :
    ∃ left' k1' e, 0 ≤ left' ∧ 0 ≤ e ∧ e < m ∧ b__law_numbers_l1 cf [some ⟨.int c, false⟩, some ⟨.int salt, false⟩, some ⟨.list ((List.replicate n m).map PyData.int), false⟩, some ⟨.int number, false⟩, some ⟨.int left, false⟩, some ⟨.list (es.map PyData.int), true⟩, some ⟨.int j, false⟩, k1] =
      some (.nx [some ⟨.int c, false⟩, some ⟨.int salt, false⟩, some ⟨.list ((List.replicate n m).map PyData.int), false⟩, some ⟨.int number, false⟩, some ⟨.int left', false⟩, some ⟨.list ((es ++ [e]).map PyData.int), true⟩, some ⟨.int j, false⟩, k1']) := by
  have hz : (es.map PyData.int).length < sizeLine := by rw [List.length_map]; exact Nat.lt_trans he (by decide)
  have tst : mAnd [(mBool (ev2 (mVar 3) (ev2 (mConst (.int 10)) (mConst (.int 18)) (dBin .Pow)) (dCmpR .GtE))), (mBool (ev2 (mVar 4) (mConst (.int 0)) (dCmpR .Gt)))] [some ⟨.int c, false⟩, some ⟨.int salt, false⟩, some ⟨.list ((List.replicate n m).map PyData.int), false⟩, some ⟨.int number, false⟩, some ⟨.int left, false⟩, some ⟨.list (es.map PyData.int), true⟩, some ⟨.int j, false⟩, k1] =
      some (decide ((10 : Int) ^ 18 ≤ number) && decide (0 < left), [some ⟨.int c, false⟩, some ⟨.int salt, false⟩, some ⟨.list ((List.replicate n m).map PyData.int), false⟩, some ⟨.int number, false⟩, some ⟨.int left, false⟩, some ⟨.list (es.map PyData.int), true⟩, some ⟨.int j, false⟩, k1]) :=
    eAnd2 (eBool (eV2 (eVarS rfl) (eV2 eCon eCon (ePow ⟨by decide, by decide, by decide⟩)) rfl)) (eBool (eV2 (eVarS rfl) eCon rfl))
  have hmap : ∀ e : Int, (es ++ [e]).map PyData.int = es.map PyData.int ++ [.int e] := fun e => by rw [List.map_append]; rfl
  cases q : (decide ((10 : Int) ^ 18 ≤ number) && decide (0 < left)) with
  | true =>
    rw [q] at tst
    refine ⟨left / m, k1, left % m, Int.ediv_nonneg hl (by omega), (mod_lt hm).1, (mod_lt hm).2, ?_⟩
    rw [hmap]
    exact Eq.trans (eSeq (eIfT tst (eSeq (eMeth rfl (eS (eV2 (eVarS rfl) (eV2 (eVarS rfl) (eVarS rfl) (ixRep hj)) (eMod hm)) eSn) rfl (if_pos hz)) (eSeq (eSet (eV2 (eVarS rfl) (eV2 (eVarS rfl) (eVarS rfl) (ixRep hj)) (eDiv hm hm2))) eSk))) eSk) rfl
  | false =>
    rw [q] at tst
    have a1 := mod_lt (i := number) (m := 2147483629) (by decide)
    have a2 := mod_lt (i := (number % 2147483629 + 7919 * salt + 1) ^ 3) (m := 2147483647) (by decide)
    generalize hx1 : (number % 2147483629 + 7919 * salt + 1) ^ (3 : Int).toNat % 2147483647 = x1
    have b1 : 0 ≤ x1 ∧ x1 < 2147483647 := by rw [← hx1]; exact mod_lt (by decide)
    generalize hx2 : (x1 + 104729 * ((j : Int) + 1)) * ((j : Int) + 3) % 2147483629 = x2
    have b2 : 0 ≤ x2 ∧ x2 < 2147483629 := by rw [← hx2]; exact mod_lt (by decide)
    generalize hx3 : x2 ^ (5 : Int).toNat % 2147483647 * 48271 % 2147483629 = x3
    have b3 : 0 ≤ x3 ∧ x3 < 2147483629 := by rw [← hx3]; exact mod_lt (by decide)
    have hj' : (j : Int) < 200 := by omega
    have hj0 : (0 : Int) ≤ j := Int.natCast_nonneg j
    refine ⟨left, some ⟨.int x3, false⟩, x3 / 16 % m, hl, (mod_lt hm).1, (mod_lt hm).2, ?_⟩
    rw [hmap]
    exact Eq.trans (eSeq (eIfF tst (eSeq (eSet (toX (eV2 (eV2 (eV2 (eV2 (eV2 (eVarS rfl) eCon (eMod (by decide))) (eV2 eCon (eVarS rfl) (eMul (okMulL (by decide) (by decide)))) eAdd) eCon eAdd) eCon (ePow ⟨by decide, by decide, abs_lt (by omega) (by omega)⟩)) eCon (eMod (by decide))) hx1))
      (eSeq (eSet (toX (eV2 (eV2 (eV2 (eVarS rfl) (eV2 eCon (eV2 (eVarS rfl) eCon eAdd) (eMul (okMulL (by decide) (by decide)))) eAdd) (eV2 (eVarS rfl) eCon eAdd) (eMul (okMulR (by omega) (by omega)))) eCon (eMod (by decide))) hx2))
      (eSeq (eSet (toX (eV2 (eV2 (eV2 (eV2 (eVarS rfl) eCon (ePow ⟨by decide, by decide, abs_lt (by omega) (by omega)⟩)) eCon (eMod (by decide))) eCon (eMul (okMulR (by decide) (by decide)))) eCon (eMod (by decide))) hx3))
      (eSeq (eMeth rfl (eS (eV2 (eV2 (eVarS rfl) eCon (eDiv (by decide) (by decide))) (eV2 (eVarS rfl) (eVarS rfl) (ixRep hj)) (eMod hm)) eSn) rfl (if_pos hz)) eSk))))) eSk) rfl
theorem lenRep {n : Nat} {m : Int} : dBi .len [.list ((List.replicate n m).map PyData.int)] = some (.int n, false) := by
  show some (PyData.int (((List.replicate n m).map PyData.int).length : Nat), false) = _
  rw [List.length_map, List.length_replicate]
theorem p_numbers (k : Nat) (c salt m : Int) (n : Nat) (h0 : 0 ≤ salt) (h1 : salt < 100000) (hm : 0 < m) (hm2 : m < 1073741824) (hn : n ≤ 200) :
    ∃ es : List Int, es.length = n ∧ (∀ e ∈ es, 0 ≤ e ∧ e < m) ∧ CF (k + 1) "_law_numbers" [.int c, .int salt, .list ((List.replicate n m).map PyData.int)] = some (.list (es.map PyData.int), true) := by
  rw [c__law_numbers]
  obtain ⟨number, hnum, hb⟩ : ∃ number, 0 ≤ number ∧ dBi .max [.int c, .int (-1 - c)] = some (.int number, false) := by
    refine ⟨if (-1 - c) > c then -1 - c else c, ?_, rfl⟩
    split <;> omega
  obtain ⟨e', g1, left, es, j6, j7, done, g2, g3, g4, g5, g6⟩ := eFor (f := fun i : Nat => .int i) (mi := i__law_numbers_l1 (CF k)) (asg := g__law_numbers_l1) (body := b__law_numbers_l1 (CF k))
    (env := [some ⟨.int c, false⟩, some ⟨.int salt, false⟩, some ⟨.list ((List.replicate n m).map PyData.int), false⟩, some ⟨.int number, false⟩, some ⟨.int number, false⟩, some ⟨.list [], true⟩, none, none])
    (fun rest e => ∃ left es j6 j7 done, e = [some ⟨.int c, false⟩, some ⟨.int salt, false⟩, some ⟨.list ((List.replicate n m).map PyData.int), false⟩, some ⟨.int number, false⟩, some ⟨.int left, false⟩, some ⟨.list (es.map PyData.int), true⟩, j6, j7] ∧ 0 ≤ left ∧ (∀ e ∈ es, 0 ≤ e ∧ e < m) ∧ List.range n = done ++ rest ∧ es.length = done.length)
    (List.range n) (eItR (n := n) (eS (eBi (eR (eVarS rfl) eRn) lenRep) eSn) (Nat.le_trans hn (by decide))) ⟨number, [], none, none, [], rfl, hnum, by simp, rfl, rfl⟩ fun j rest e ⟨left, es, j6, j7, done, g2, g3, g4, g5, g6⟩ => by
      subst g2
      have hj : j < n := List.mem_range.mp (by rw [g5]; simp)
      have hd : done.length < n := by
        have := congrArg List.length g5
        rw [List.length_range, List.length_append, List.length_cons] at this
        omega
      obtain ⟨left', k1', x, a1, a2, a3, a4⟩ := num_turn (CF k) c salt m number left n j es j7 h0 h1 hm hm2 hj hn g3 (by omega)
      refine ⟨_, _, rfl, a4, left', es ++ [x], _, k1', done ++ [j], rfl, a1, fun y hy => ?_, by rw [g5]; simp, by simp [g6]⟩
      rcases List.mem_append.mp hy with hy | hy
      · exact g4 y hy
      · cases List.mem_singleton.mp hy
        exact ⟨a2, a3⟩
  subst g2
  refine ⟨es, ?_, g4, ?_⟩
  · have := congrArg List.length g5
    rw [List.length_range, List.length_append, List.length_nil] at this
    omega
  · exact Eq.trans (oRt (eSeq (eSet (eBi (eR (eVarS rfl) (eR (eV2 (eV1 eCon rfl) (eVarS rfl) eSub) eRn)) hb)) (eSeq (eSet (eVarS rfl)) (eSeq (eSet (eLst eSn (Nat.zero_le _))) (eSeq g1 (eSeqR (eRet (eVarO rfl)))))))) rfl
end K02
set_option Elab.async false
set_option linter.all false
set_option maxRecDepth 100000
set_option maxHeartbeats 1000000
set_option autoImplicit false
namespace K02
open PySem PySem.Spec PyProof.Rows L2 HC
theorem dist_of {bs : List Bx} (h : (bs.map Bx.name).Nodup) : Dist bs := fun i b hb => by
  have hi := (List.getElem?_eq_some_iff.mp hb).1
  have hbi : bs[i] = b := (List.getElem?_eq_some_iff.mp hb).2
  have key : ∀ (j : Nat) (hj : j < bs.length), bs[j].name = b.name → j = i := fun j hj q => by
    have q2 : (bs.map Bx.name)[j]'(by simpa using hj) = (bs.map Bx.name)[i]'(by simpa using hi) := by
      rw [List.getElem_map, List.getElem_map, hbi, q]
    have pw := List.pairwise_iff_getElem.mp h
    rcases Nat.lt_trichotomy j i with z | z | z
    · exact absurd q2 (pw j i (by simpa using hj) (by simpa using hi) z)
    · exact z
    · exact absurd q2.symm (pw i j (by simpa using hi) (by simpa using hj) z)
  refine ⟨?_, hb, ?_⟩
  · unfold place
    refine List.findIdx?_eq_some_iff_getElem.mpr ⟨hi, by rw [hbi]; exact beq_self_eq_true _, fun j hj z => ?_⟩
    have := key j (by omega) (eq_of_beq z)
    omega
  · refine List.find?_eq_some_iff_getElem.mpr ⟨beq_self_eq_true _, i, hi, hbi, fun j hj => ?_⟩
    cases z : (bs[j].name == b.name) with
    | false => rfl
    | true =>
      have := key j (by omega) (eq_of_beq z)
      omega
structure BsOk (bs : List Bx) : Prop where
  nok : NOk bs
  dist : Dist bs
  len : bs.length ≤ 3
  sz : ∀ b ∈ bs, 2 ≤ b.size ∧ b.size ≤ 3
  kd : ∀ b ∈ bs, b.kind = "real" ∨ b.kind = "put"
  nd : (bs.map Bx.name).Nodup
  ne : bs ≠ []
theorem ixD {ds : List Int} {j : Nat} {x : Int} (h : ds[j]? = some x) : dIx (.list (ds.map PyData.int)) (.int j) = some (.int x, false) := eIxL (by rw [List.getElem?_map, h]; rfl)
theorem toL {m : MV} {env e : HC.Env} {k : Kd} {v x : List D} (h : m env = some (.list v, k, e)) (hv : v = x) : m env = some (.list x, k, e) := by rw [h, hv]
theorem niceName {x : Str} (h : x = "a" ∨ x = "b" ∨ x = "g") : Nice 0 8 (.str x) := by
  rcases h with rfl | rfl | rfl
  · exact .str (by decide +kernel) (by decide +kernel)
  · exact .str (by decide +kernel) (by decide +kernel)
  · exact .str (by decide +kernel) (by decide +kernel)
def kdOf (d : Int) : Str := if d % 2 = 0 then "put" else "real"
theorem ix_kd (d : Int) : dIx (.list [.str "put", .str "real"]) (.int (d % 2)) = some (.str (kdOf d), false) := by
  have h := mod_lt (i := d) (m := 2) (by decide)
  unfold kdOf
  rcases (show d % 2 = 0 ∨ d % 2 = 1 by omega) with q | q
  · rw [q]; rfl
  · rw [q]; rfl
def bA (d : Int) : Bx := ⟨"a", 2 + d % 2, "real"⟩
def bB : Bx := ⟨"b", 2, "real"⟩
def bG (d e : Int) : Bx := ⟨"g", 2 + d % 2, kdOf e⟩
def bs0 (d0 d1 : Int) : List Bx := [bA d0, bB].take (1 + d1 % 2).toNat
theorem bs0_sub {d0 d1 : Int} {b : Bx} (h : b ∈ bs0 d0 d1) : b = bA d0 ∨ b = bB := by
  have := List.mem_of_mem_take h
  simpa using this
theorem bs0_nd (d0 d1 : Int) : ((bs0 d0 d1).map Bx.name).Nodup := by
  have h : ([bA d0, bB].map Bx.name).Nodup := by
    show (["a", "b"] : List Str).Nodup
    decide +kernel
  unfold bs0
  rw [List.map_take]
  exact h.sublist (List.take_sublist _ _)
theorem bs0_ne (d0 d1 : Int) : bs0 d0 d1 ≠ [] := by
  unfold bs0
  have m1 := mod_lt (i := d1) (m := 2) (by decide)
  obtain ⟨j, hj⟩ := Int.eq_ofNat_of_zero_le (show 0 ≤ d1 % 2 by omega)
  rw [hj, show (1 + (j : Int)).toNat = j + 1 by omega, List.take_succ_cons]
  simp
theorem p_boxes (k : Nat) (ds : List Int) (d0 d1 d2 d3 d4 d5 : Int) (h0 : ds[0]? = some d0) (h1 : ds[1]? = some d1) (h2 : ds[2]? = some d2) (h3 : ds[3]? = some d3) (h4 : ds[4]? = some d4) (h5 : ds[5]? = some d5) :
    ∃ bs, BsOk bs ∧ CF (k + 1) "_law_boxes" [.list (ds.map PyData.int)] = some (.list (bs.map Bx.d), true) := by
  rw [c__law_boxes]
  have m0 := mod_lt (i := d0) (m := 2) (by decide)
  have m1 := mod_lt (i := d1) (m := 2) (by decide)
  have m4 := mod_lt (i := d4) (m := 2) (by decide)
  have cut : cutD [(bA d0).d, bB.d] none (some (1 + d1 % 2)) = (bs0 d0 d1).map Bx.d := by
    have e : (1 + d1 % 2) = (((1 + d1 % 2).toNat : Nat) : Int) := by omega
    rw [e, cutTake]
    unfold bs0
    rw [List.map_take]
    rfl
  have st1 : mSet 1 (mSl (mLst (lS [(mTup (lS [(mConst (.str "a")), (ev2 (mConst (.int 2)) (ev2 (ev2 (mVar 0) (mConst (.int 0)) dIx) (mConst (.int 2)) (dBin .Mod)) (dBin .Add)), (mConst (.str "real"))])), (mTup (lS [(mConst (.str "b")), (mConst (.int 2)), (mConst (.str "real"))]))])) none (some (ev2 (mConst (.int 1)) (ev2 (ev2 (mVar 0) (mConst (.int 1)) dIx) (mConst (.int 2)) (dBin .Mod)) (dBin .Add)))) [some ⟨.list (ds.map PyData.int), false⟩, none] = some (.nx [some ⟨.list (ds.map PyData.int), false⟩, some ⟨.list ((bs0 d0 d1).map Bx.d), true⟩]) :=
    Eq.trans (eSet (toL (eSlc (eLst (eS (eTup (eS eCon (eS (eV2 eCon (eV2 (eV2 (eVarS rfl) eCon (ixD (j := 0) h0)) eCon (eMod (by decide))) eAdd) (eS eCon eSn))) (szL rfl)) (eS (eTup (eS eCon (eS eCon (eS eCon eSn))) (szL rfl)) eSn)) (szL rfl)) ePn (ePart (eV2 eCon (eV2 (eV2 (eVarS rfl) eCon (ixD (j := 1) h1)) eCon (eMod (by decide))) eAdd)) rfl) cut)) rfl
  have tst : mBool (ev2 (ev2 (ev2 (mVar 0) (mConst (.int 2)) dIx) (mConst (.int 3)) (dBin .Mod)) (mConst (.int 0)) (dCmpR .Gt)) [some ⟨.list (ds.map PyData.int), false⟩, some ⟨.list ((bs0 d0 d1).map Bx.d), true⟩] = some (decide (0 < d2 % 3), [some ⟨.list (ds.map PyData.int), false⟩, some ⟨.list ((bs0 d0 d1).map Bx.d), true⟩]) :=
    eBool (eV2 (eV2 (eV2 (eVarS rfl) eCon (ixD (j := 2) h2)) eCon (eMod (by decide))) eCon rfl)
  have sA : 2 ≤ (bA d0).size ∧ (bA d0).size ≤ 3 := by show 2 ≤ 2 + d0 % 2 ∧ 2 + d0 % 2 ≤ 3; omega
  have sG : 2 ≤ (bG d4 d5).size ∧ (bG d4 d5).size ≤ 3 := by show 2 ≤ 2 + d4 % 2 ∧ 2 + d4 % 2 ≤ 3; omega
  have kG : (bG d4 d5).kind = "real" ∨ (bG d4 d5).kind = "put" := by
    show kdOf d5 = "real" ∨ kdOf d5 = "put"
    unfold kdOf
    split
    · exact .inr rfl
    · exact .inl rfl
  have l0 : (bs0 d0 d1).length ≤ 2 := by
    unfold bs0
    rw [List.length_take]
    exact Nat.min_le_right _ _
  cases q : decide (0 < d2 % 3) with
  | false =>
    rw [q] at tst
    refine ⟨bs0 d0 d1, ⟨fun b hb => ?_, dist_of (bs0_nd d0 d1), by omega, fun b hb => ?_, fun b hb => ?_, bs0_nd d0 d1, bs0_ne d0 d1⟩, Eq.trans (oRt (eSeq st1 (eSeq (eIfF tst eSk) (eSeqR (eRet (eVarO rfl)))))) rfl⟩
    · rcases bs0_sub hb with rfl | rfl
      · exact niceName (.inl rfl)
      · exact niceName (.inr (.inl rfl))
    · rcases bs0_sub hb with rfl | rfl
      · exact sA
      · exact ⟨by decide, by decide⟩
    · rcases bs0_sub hb with rfl | rfl
      · exact .inl rfl
      · exact .inl rfl
  | true =>
    rw [q] at tst
    have m3 := mod_lt (i := d3) (m := ((bs0 d0 d1).length : Int) + 1) (by omega)
    let j := (d3 % (((bs0 d0 d1).length : Int) + 1)).toNat
    have hins : dMt .insert ((bs0 d0 d1).map Bx.d) [.int (d3 % (((bs0 d0 d1).length : Int) + 1)), (bG d4 d5).d] = some (((bs0 d0 d1).take j ++ [bG d4 d5] ++ (bs0 d0 d1).drop j).map Bx.d) := by
      have : dMt .insert ((bs0 d0 d1).map Bx.d) [.int (d3 % (((bs0 d0 d1).length : Int) + 1)), (bG d4 d5).d] = some (((bs0 d0 d1).map Bx.d).take j ++ [(bG d4 d5).d] ++ ((bs0 d0 d1).map Bx.d).drop j) := by
        refine if_pos ⟨?_, m3.1, ?_⟩
        · rw [List.length_map]
          exact Nat.lt_of_le_of_lt l0 (by decide)
        · omega
      rw [this, ← List.map_take, ← List.map_drop, List.map_append, List.map_append]
      rfl
    have hlen : dBi .len [.list ((bs0 d0 d1).map Bx.d)] = some (.int ((bs0 d0 d1).length : Nat), false) := by
      show some (PyData.int (((bs0 d0 d1).map Bx.d).length : Nat), false) = _
      rw [List.length_map]
    have hsub : ∀ {b : Bx}, b ∈ (bs0 d0 d1).take j ++ [bG d4 d5] ++ (bs0 d0 d1).drop j → b = bA d0 ∨ b = bB ∨ b = bG d4 d5 := fun {b} hb => by
      rcases List.mem_append.mp hb with hb | hb
      · rcases List.mem_append.mp hb with hb | hb
        · rcases bs0_sub (List.mem_of_mem_take hb) with h | h
          · exact .inl h
          · exact .inr (.inl h)
        · exact .inr (.inr (List.mem_singleton.mp hb))
      · rcases bs0_sub (List.mem_of_mem_drop hb) with h | h
        · exact .inl h
        · exact .inr (.inl h)
    have nd : (((bs0 d0 d1).take j ++ [bG d4 d5] ++ (bs0 d0 d1).drop j).map Bx.name).Nodup := by
      have p : ((bs0 d0 d1).take j ++ [bG d4 d5] ++ (bs0 d0 d1).drop j).Perm (bG d4 d5 :: bs0 d0 d1) := by
        have p1 : ((bs0 d0 d1).take j ++ bG d4 d5 :: (bs0 d0 d1).drop j).Perm (bG d4 d5 :: ((bs0 d0 d1).take j ++ (bs0 d0 d1).drop j)) := List.perm_middle
        rw [List.take_append_drop] at p1
        simpa using p1
      refine (p.map Bx.name).nodup_iff.mpr ?_
      rw [List.map_cons]
      refine List.nodup_cons.mpr ⟨fun z => ?_, bs0_nd d0 d1⟩
      obtain ⟨b, hb, z⟩ := List.mem_map.mp z
      rcases bs0_sub hb with rfl | rfl
      · exact absurd z (by show ¬(("a" : Str) = "g"); decide +kernel)
      · exact absurd z (by show ¬(("b" : Str) = "g"); decide +kernel)
    refine ⟨(bs0 d0 d1).take j ++ [bG d4 d5] ++ (bs0 d0 d1).drop j, ⟨fun b hb => ?_, dist_of nd, ?_, fun b hb => ?_, fun b hb => ?_, nd, by simp⟩,
      Eq.trans (oRt (eSeq st1 (eSeq (eIfT tst (eSeq (eMeth rfl (eS (eV2 (eV2 (eVarS rfl) eCon (ixD (j := 3) h3)) (eV2 (eBi (eR (eVarO rfl) eRn) hlen) eCon eAdd) (eMod (by omega))) (eS (eTup (eS eCon (eS (eV2 eCon (eV2 (eV2 (eVarS rfl) eCon (ixD (j := 4) h4)) eCon (eMod (by decide))) eAdd) (eS (eV2 (eLst (eS eCon (eS eCon eSn)) (by decide)) (eV2 (eV2 (eVarS rfl) eCon (ixD (j := 5) h5)) eCon (eMod (by decide))) (ix_kd d5)) eSn))) (szL rfl)) eSn)) rfl hins) eSk)) (eSeqR (eRet (eVarO rfl)))))) rfl⟩
    · rcases hsub hb with rfl | rfl | rfl
      · exact niceName (.inl rfl)
      · exact niceName (.inr (.inl rfl))
      · exact niceName (.inr (.inr rfl))
    · rw [List.length_append, List.length_append, List.length_take, List.length_drop, List.length_singleton]
      omega
    · rcases hsub hb with rfl | rfl | rfl
      · exact sA
      · exact ⟨by decide, by decide⟩
      · exact sG
    · rcases hsub hb with rfl | rfl | rfl
      · exact .inl rfl
      · exact .inl rfl
      · exact kG
end K02
set_option Elab.async false
set_option linter.all false
set_option maxRecDepth 100000
set_option maxHeartbeats 1000000
set_option autoImplicit false
namespace K02
open PySem PySem.Spec PyProof.Rows L2 HC
/-! ### what the lookers tell, in plain words -/
def isWhole : D → Bool
  | .int _ => true
  | _ => false
theorem p_is_whole (k : Nat) (d : D) : CF (k + 1) "is_whole" [d] = some (.bool (isWhole d), false) := by
  rw [c_is_whole]
  cases d <;> rfl
theorem p__law_is_whole (k : Nat) (d : D) : CF (k + 1) "_law_is_whole" [d] = some (.bool (isWhole d), false) := by
  rw [c__law_is_whole]
  cases d <;> rfl
def isWithin (d : D) (a b : Int) : Bool := match d with
  | .int i => decide (a ≤ i) && decide (i ≤ b)
  | _ => false
theorem p_is_within (k : Nat) (d : D) (a b : Int) : CF (k + 2) "is_within" [d, .int a, .int b] = some (.bool (isWithin d a b), false) := by
  rw [c_is_within]
  unfold b_is_within
  simp only [mAug, miZip, seqOf, inSignR, ninSignR, eqNil, eqNilT, inStrsT, inStrsL, biAll, biAny, true_and, and_true, and_self, Int.reducePow, Int.reduceNeg, Int.reduceToNat, rangeD, List.cons_append, List.nil_append, List.length_append, bAddL, bAddT, bMod, bNeg, biList, biListT, biTup, biTupT, biMax, isnB, isB, mDct0, sizeLine, Nat.reducePow, Nat.reduceLeDiff, cond_true, cond_false, Bool.not_eq_true, Int.cast_ofNat_Int, decide_true, decide_false, Int.reduceEq, Int.reduceLT, Int.reduceLE, Int.reduceSub, Int.reduceAdd, beq_self_eq_true, mSeq, mRet, mVar, mConst, ev1, ev2, mBool, mTru, mIfS, mIf, mSet, mAsg, mPar2, mSortSet, mSetI, mMeth, mBi, mCall, mTup, mLst, mSl, mPart, mAnd, mOr, mNotT, vAnd, vOr, mSkip, mIfs, mChain, mLenSet, mSetL, mFn, mGet2, miVal, miRange, miEnum, lS, lR, gVar, gTupD, gsCons, gsNil, shEnv, shIdx, inner, hideOwn, wipeE, kOf, frOf, fOut, List.getElem?_cons_zero, List.getElem?_cons_succ, List.getElem?_nil, List.set_cons_zero, List.set_cons_succ, List.map_cons, List.map_nil, List.length_cons, List.length_nil, Bool.false_eq_true, ↓reduceIte, Nat.reduceAdd, lc1, iterD, dTru, dIsaR, dIsa, dNot, cEqII, cNeII, cEqSS, cNeSS, cLtII, cLeII, cGtII, cGeII, cLtII', cLeII', bAdd, bSub, ixT0, ixL0, ixT1, ixL1, ixT2, ixL2, ixT3, biLenL, biLenT, Bool.not_true, Bool.not_false, Bool.true_and, Bool.false_and, Bool.and_true, Bool.and_false, p_is_whole]
  cases d with
  | int i =>
    simp only [mAug, miZip, seqOf, inSignR, ninSignR, eqNil, eqNilT, inStrsT, inStrsL, biAll, biAny, true_and, and_true, and_self, Int.reducePow, Int.reduceNeg, Int.reduceToNat, rangeD, List.cons_append, List.nil_append, List.length_append, bAddL, bAddT, bMod, bNeg, biList, biListT, biTup, biTupT, biMax, isnB, isB, mDct0, sizeLine, Nat.reducePow, Nat.reduceLeDiff, cond_true, cond_false, Bool.not_eq_true, Int.cast_ofNat_Int, decide_true, decide_false, Int.reduceEq, Int.reduceLT, Int.reduceLE, Int.reduceSub, Int.reduceAdd, beq_self_eq_true, mSeq, mRet, mVar, mConst, ev1, ev2, mBool, mTru, mIfS, mIf, mSet, mAsg, mPar2, mSortSet, mSetI, mMeth, mBi, mCall, mTup, mLst, mSl, mPart, mAnd, mOr, mNotT, vAnd, vOr, mSkip, mIfs, mChain, mLenSet, mSetL, mFn, mGet2, miVal, miRange, miEnum, lS, lR, gVar, gTupD, gsCons, gsNil, shEnv, shIdx, inner, hideOwn, wipeE, kOf, frOf, fOut, List.getElem?_cons_zero, List.getElem?_cons_succ, List.getElem?_nil, List.set_cons_zero, List.set_cons_succ, List.map_cons, List.map_nil, List.length_cons, List.length_nil, Bool.false_eq_true, ↓reduceIte, Nat.reduceAdd, lc1, iterD, dTru, dIsaR, dIsa, dNot, cEqII, cNeII, cEqSS, cNeSS, cLtII, cLeII, cGtII, cGeII, cLtII', cLeII', bAdd, bSub, ixT0, ixL0, ixT1, ixL1, ixT2, ixL2, ixT3, biLenL, biLenT, Bool.not_true, Bool.not_false, Bool.true_and, Bool.false_and, Bool.and_true, Bool.and_false, isWhole, isWithin]
    by_cases h : a ≤ i <;> simp only [mAug, miZip, seqOf, inSignR, ninSignR, eqNil, eqNilT, inStrsT, inStrsL, biAll, biAny, true_and, and_true, and_self, Int.reducePow, Int.reduceNeg, Int.reduceToNat, rangeD, List.cons_append, List.nil_append, List.length_append, bAddL, bAddT, bMod, bNeg, biList, biListT, biTup, biTupT, biMax, isnB, isB, mDct0, sizeLine, Nat.reducePow, Nat.reduceLeDiff, cond_true, cond_false, Bool.not_eq_true, Int.cast_ofNat_Int, decide_true, decide_false, Int.reduceEq, Int.reduceLT, Int.reduceLE, Int.reduceSub, Int.reduceAdd, beq_self_eq_true, mSeq, mRet, mVar, mConst, ev1, ev2, mBool, mTru, mIfS, mIf, mSet, mAsg, mPar2, mSortSet, mSetI, mMeth, mBi, mCall, mTup, mLst, mSl, mPart, mAnd, mOr, mNotT, vAnd, vOr, mSkip, mIfs, mChain, mLenSet, mSetL, mFn, mGet2, miVal, miRange, miEnum, lS, lR, gVar, gTupD, gsCons, gsNil, shEnv, shIdx, inner, hideOwn, wipeE, kOf, frOf, fOut, List.getElem?_cons_zero, List.getElem?_cons_succ, List.getElem?_nil, List.set_cons_zero, List.set_cons_succ, List.map_cons, List.map_nil, List.length_cons, List.length_nil, Bool.false_eq_true, ↓reduceIte, Nat.reduceAdd, lc1, iterD, dTru, dIsaR, dIsa, dNot, cEqII, cNeII, cEqSS, cNeSS, cLtII, cLeII, cGtII, cGeII, cLtII', cLeII', bAdd, bSub, ixT0, ixL0, ixT1, ixL1, ixT2, ixL2, ixT3, biLenL, biLenT, Bool.not_true, Bool.not_false, Bool.true_and, Bool.false_and, Bool.and_true, Bool.and_false, h]
  | _ => rfl
def isKn (bs : List Bx) (x : Str) : Bool := bs.any fun b => b.name == x
def known (bs : List Bx) : D → Bool
  | .str x => isKn bs x
  | _ => false
def szOf (bs : List Bx) (x : Str) : Int := match bs.find? fun b => b.name == x with
  | some b => b.size
  | none => 0
theorem kn_find {bs : List Bx} {x : Str} (h : isKn bs x = true) : ∃ b, bs.find? (fun b => b.name == x) = some b ∧ szOf bs x = b.size := by
  cases q : bs.find? fun b => b.name == x with
  | some b => exact ⟨b, rfl, by unfold szOf; rw [q]⟩
  | none =>
    have := List.find?_eq_none.mp q
    obtain ⟨b, hb, hx⟩ := List.any_eq_true.mp h
    exact absurd hx (this b hb)
theorem any_str (bs : List Bx) (x : Str) : ((bs.map fun b => PyData.str b.name).any fun z => PyData.eqv z (.str x)) = isKn bs x := by
  rw [List.any_map]
  unfold isKn
  refine congrArg (fun f => bs.any f) (funext fun b => ?_)
  show PyData.eqv (.str b.name) (.str x) = _
  simp only [PyData.eqv]
theorem p_size (k : Nat) (bs : List Bx) (x : Str) (h : isKn bs x = true) : CF (k + 1) "size_of" [.list (bs.map Bx.d), .str x] = some (.int (szOf bs x), false) := by
  obtain ⟨b, h1, h2⟩ := kn_find h
  rw [p_size_of k bs x b h1, h2]
theorem inNames (bs : List Bx) (x : Str) : dCmpR .In (.str x) (.list (bs.map fun b => PyData.str b.name)) = some (.bool (isKn bs x), false) := by
  rw [← any_str]
  exact eCmp (by
    rw [dCmp_in]
    simp only [dIn]
    rw [if_pos]
    refine ⟨rfl, ?_⟩
    rw [List.all_map, List.all_eq_true]
    exact fun _ _ => rfl)
theorem p_known (k : Nat) (bs : List Bx) (d : D) : CF (k + 2) "is_known_name" [.list (bs.map Bx.d), d] = some (.bool (known bs d), false) := by
  rw [c_is_known_name]
  unfold b_is_known_name
  cases d with
  | str x => simp only [mAug, miZip, seqOf, inSignR, ninSignR, eqNil, eqNilT, inStrsT, inStrsL, biAll, biAny, true_and, and_true, and_self, Int.reducePow, Int.reduceNeg, Int.reduceToNat, rangeD, List.cons_append, List.nil_append, List.length_append, bAddL, bAddT, bMod, bNeg, biList, biListT, biTup, biTupT, biMax, isnB, isB, mDct0, sizeLine, Nat.reducePow, Nat.reduceLeDiff, cond_true, cond_false, Bool.not_eq_true, Int.cast_ofNat_Int, decide_true, decide_false, Int.reduceEq, Int.reduceLT, Int.reduceLE, Int.reduceSub, Int.reduceAdd, beq_self_eq_true, mSeq, mRet, mVar, mConst, ev1, ev2, mBool, mTru, mIfS, mIf, mSet, mAsg, mPar2, mSortSet, mSetI, mMeth, mBi, mCall, mTup, mLst, mSl, mPart, mAnd, mOr, mNotT, vAnd, vOr, mSkip, mIfs, mChain, mLenSet, mSetL, mFn, mGet2, miVal, miRange, miEnum, lS, lR, gVar, gTupD, gsCons, gsNil, shEnv, shIdx, inner, hideOwn, wipeE, kOf, frOf, fOut, List.getElem?_cons_zero, List.getElem?_cons_succ, List.getElem?_nil, List.set_cons_zero, List.set_cons_succ, List.map_cons, List.map_nil, List.length_cons, List.length_nil, Bool.false_eq_true, ↓reduceIte, Nat.reduceAdd, lc1, iterD, dTru, dIsaR, dIsa, dNot, cEqII, cNeII, cEqSS, cNeSS, cLtII, cLeII, cGtII, cGeII, cLtII', cLeII', bAdd, bSub, ixT0, ixL0, ixT1, ixL1, ixT2, ixL2, ixT3, biLenL, biLenT, Bool.not_true, Bool.not_false, Bool.true_and, Bool.false_and, Bool.and_true, Bool.and_false, p_names_of, inNames, known]
  | _ => simp only [mAug, miZip, seqOf, inSignR, ninSignR, eqNil, eqNilT, inStrsT, inStrsL, biAll, biAny, true_and, and_true, and_self, Int.reducePow, Int.reduceNeg, Int.reduceToNat, rangeD, List.cons_append, List.nil_append, List.length_append, bAddL, bAddT, bMod, bNeg, biList, biListT, biTup, biTupT, biMax, isnB, isB, mDct0, sizeLine, Nat.reducePow, Nat.reduceLeDiff, cond_true, cond_false, Bool.not_eq_true, Int.cast_ofNat_Int, decide_true, decide_false, Int.reduceEq, Int.reduceLT, Int.reduceLE, Int.reduceSub, Int.reduceAdd, beq_self_eq_true, mSeq, mRet, mVar, mConst, ev1, ev2, mBool, mTru, mIfS, mIf, mSet, mAsg, mPar2, mSortSet, mSetI, mMeth, mBi, mCall, mTup, mLst, mSl, mPart, mAnd, mOr, mNotT, vAnd, vOr, mSkip, mIfs, mChain, mLenSet, mSetL, mFn, mGet2, miVal, miRange, miEnum, lS, lR, gVar, gTupD, gsCons, gsNil, shEnv, shIdx, inner, hideOwn, wipeE, kOf, frOf, fOut, List.getElem?_cons_zero, List.getElem?_cons_succ, List.getElem?_nil, List.set_cons_zero, List.set_cons_succ, List.map_cons, List.map_nil, List.length_cons, List.length_nil, Bool.false_eq_true, ↓reduceIte, Nat.reduceAdd, lc1, iterD, dTru, dIsaR, dIsa, dNot, cEqII, cNeII, cEqSS, cNeSS, cLtII, cLeII, cGtII, cGeII, cLtII', cLeII', bAdd, bSub, ixT0, ixL0, ixT1, ixL1, ixT2, ixL2, ixT3, biLenL, biLenT, Bool.not_true, Bool.not_false, Bool.true_and, Bool.false_and, Bool.and_true, Bool.and_false, known]
/-! ### names -/
def strsD (ds : List D) : List Str := ds.filterMap fun d => match d with
  | .str x => some x
  | _ => none
theorem strsD_map : ∀ ns : List Str, strsD (ns.map PyData.str) = ns
  | [] => rfl
  | n :: ns => by
    unfold strsD
    rw [List.map_cons, List.filterMap_cons]
    exact congrArg (List.cons n) (strsD_map ns)
theorem known_strs {bs : List Bx} : ∀ {ds : List D}, ds.all (known bs) = true → ∃ ns : List Str, ds = ns.map PyData.str ∧ ∀ n ∈ ns, isKn bs n = true
  | [], _ => ⟨[], rfl, fun n hn => by cases hn⟩
  | d :: ds, h => by
    rw [List.all_cons, Bool.and_eq_true] at h
    obtain ⟨ns, e, hk⟩ := known_strs h.2
    cases d with
    | str x =>
      refine ⟨x :: ns, by rw [e]; rfl, fun n hn => ?_⟩
      rcases List.mem_cons.mp hn with q | q
      · rw [q]; exact h.1
      · exact hk n q
    | _ => cases h.1
def areNames (bs : List Bx) : D → Bool
  | .tuple ds => !ds.isEmpty && (ds.all (known bs) && distB (strsD ds))
  | _ => false
def few : D → Prop
  | .tuple ds => ds.length < 4000
  | _ => True
theorem uniqLen (ns : List Str) : (decide ((((uniq [] (ns.map Sum.inr)).length : Nat) : Int) = ((ns.length : Nat) : Int))) = distB ns := by
  rw [← uniq_strs ns]
  by_cases z : (uniq [] (ns.map Sum.inr)).length = ns.length
  · rw [decide_eq_true z, decide_eq_true (by omega)]
  · rw [decide_eq_false z, decide_eq_false (by omega)]
theorem p_are_names (k : Nat) (bs : List Bx) (d : D) (hf : few d) : CF (k + 3) "are_names" [.list (bs.map Bx.d), d] = some (.bool (areNames bs d), false) := by
  rw [c_are_names]
  unfold b_are_names
  cases d with
  | tuple ds =>
    have hf' : ds.length < 4000 := hf
    cases q0 : ds.isEmpty with
    | true => simp only [mAug, miZip, seqOf, inSignR, ninSignR, eqNil, eqNilT, inStrsT, inStrsL, biAll, biAny, true_and, and_true, and_self, Int.reducePow, Int.reduceNeg, Int.reduceToNat, rangeD, List.cons_append, List.nil_append, List.length_append, bAddL, bAddT, bMod, bNeg, biList, biListT, biTup, biTupT, biMax, isnB, isB, mDct0, sizeLine, Nat.reducePow, Nat.reduceLeDiff, cond_true, cond_false, Bool.not_eq_true, Int.cast_ofNat_Int, decide_true, decide_false, Int.reduceEq, Int.reduceLT, Int.reduceLE, Int.reduceSub, Int.reduceAdd, beq_self_eq_true, mSeq, mRet, mVar, mConst, ev1, ev2, mBool, mTru, mIfS, mIf, mSet, mAsg, mPar2, mSortSet, mSetI, mMeth, mBi, mCall, mTup, mLst, mSl, mPart, mAnd, mOr, mNotT, vAnd, vOr, mSkip, mIfs, mChain, mLenSet, mSetL, mFn, mGet2, miVal, miRange, miEnum, lS, lR, gVar, gTupD, gsCons, gsNil, shEnv, shIdx, inner, hideOwn, wipeE, kOf, frOf, fOut, List.getElem?_cons_zero, List.getElem?_cons_succ, List.getElem?_nil, List.set_cons_zero, List.set_cons_succ, List.map_cons, List.map_nil, List.length_cons, List.length_nil, Bool.false_eq_true, ↓reduceIte, Nat.reduceAdd, lc1, iterD, dTru, dIsaR, dIsa, dNot, cEqII, cNeII, cEqSS, cNeSS, cLtII, cLeII, cGtII, cGeII, cLtII', cLeII', bAdd, bSub, ixT0, ixL0, ixT1, ixL1, ixT2, ixL2, ixT3, biLenL, biLenT, Bool.not_true, Bool.not_false, Bool.true_and, Bool.false_and, Bool.and_true, Bool.and_false, eqNilT, q0, areNames]
    | false =>
      simp only [mAug, miZip, seqOf, inSignR, ninSignR, eqNil, eqNilT, inStrsT, inStrsL, biAll, biAny, true_and, and_true, and_self, Int.reducePow, Int.reduceNeg, Int.reduceToNat, rangeD, List.cons_append, List.nil_append, List.length_append, bAddL, bAddT, bMod, bNeg, biList, biListT, biTup, biTupT, biMax, isnB, isB, mDct0, sizeLine, Nat.reducePow, Nat.reduceLeDiff, cond_true, cond_false, Bool.not_eq_true, Int.cast_ofNat_Int, decide_true, decide_false, Int.reduceEq, Int.reduceLT, Int.reduceLE, Int.reduceSub, Int.reduceAdd, beq_self_eq_true, mSeq, mRet, mVar, mConst, ev1, ev2, mBool, mTru, mIfS, mIf, mSet, mAsg, mPar2, mSortSet, mSetI, mMeth, mBi, mCall, mTup, mLst, mSl, mPart, mAnd, mOr, mNotT, vAnd, vOr, mSkip, mIfs, mChain, mLenSet, mSetL, mFn, mGet2, miVal, miRange, miEnum, lS, lR, gVar, gTupD, gsCons, gsNil, shEnv, shIdx, inner, hideOwn, wipeE, kOf, frOf, fOut, List.getElem?_cons_zero, List.getElem?_cons_succ, List.getElem?_nil, List.set_cons_zero, List.set_cons_succ, List.map_cons, List.map_nil, List.length_cons, List.length_nil, Bool.false_eq_true, ↓reduceIte, Nat.reduceAdd, lc1, iterD, dTru, dIsaR, dIsa, dNot, cEqII, cNeII, cEqSS, cNeSS, cLtII, cLeII, cGtII, cGeII, cLtII', cLeII', bAdd, bSub, ixT0, ixL0, ixT1, ixL1, ixT2, ixL2, ixT3, biLenL, biLenT, Bool.not_true, Bool.not_false, Bool.true_and, Bool.false_and, Bool.and_true, Bool.and_false, eqNilT, q0, mLc, areNames]
      rw [lcMapD (fun d => .bool (known bs d)) (fun d _ => by simp only [mAug, miZip, seqOf, inSignR, ninSignR, eqNil, eqNilT, inStrsT, inStrsL, biAll, biAny, true_and, and_true, and_self, Int.reducePow, Int.reduceNeg, Int.reduceToNat, rangeD, List.cons_append, List.nil_append, List.length_append, bAddL, bAddT, bMod, bNeg, biList, biListT, biTup, biTupT, biMax, isnB, isB, mDct0, sizeLine, Nat.reducePow, Nat.reduceLeDiff, cond_true, cond_false, Bool.not_eq_true, Int.cast_ofNat_Int, decide_true, decide_false, Int.reduceEq, Int.reduceLT, Int.reduceLE, Int.reduceSub, Int.reduceAdd, beq_self_eq_true, mSeq, mRet, mVar, mConst, ev1, ev2, mBool, mTru, mIfS, mIf, mSet, mAsg, mPar2, mSortSet, mSetI, mMeth, mBi, mCall, mTup, mLst, mSl, mPart, mAnd, mOr, mNotT, vAnd, vOr, mSkip, mIfs, mChain, mLenSet, mSetL, mFn, mGet2, miVal, miRange, miEnum, lS, lR, gVar, gTupD, gsCons, gsNil, shEnv, shIdx, inner, hideOwn, wipeE, kOf, frOf, fOut, List.getElem?_cons_zero, List.getElem?_cons_succ, List.getElem?_nil, List.set_cons_zero, List.set_cons_succ, List.map_cons, List.map_nil, List.length_cons, List.length_nil, Bool.false_eq_true, ↓reduceIte, Nat.reduceAdd, lc1, iterD, dTru, dIsaR, dIsa, dNot, cEqII, cNeII, cEqSS, cNeSS, cLtII, cLeII, cGtII, cGeII, cLtII', cLeII', bAdd, bSub, ixT0, ixL0, ixT1, ixL1, ixT2, ixL2, ixT3, biLenL, biLenT, Bool.not_true, Bool.not_false, Bool.true_and, Bool.false_and, Bool.and_true, Bool.and_false, p_known])]
      simp only [mAug, miZip, seqOf, inSignR, ninSignR, eqNil, eqNilT, inStrsT, inStrsL, biAll, biAny, true_and, and_true, and_self, Int.reducePow, Int.reduceNeg, Int.reduceToNat, rangeD, List.cons_append, List.nil_append, List.length_append, bAddL, bAddT, bMod, bNeg, biList, biListT, biTup, biTupT, biMax, isnB, isB, mDct0, sizeLine, Nat.reducePow, Nat.reduceLeDiff, cond_true, cond_false, Bool.not_eq_true, Int.cast_ofNat_Int, decide_true, decide_false, Int.reduceEq, Int.reduceLT, Int.reduceLE, Int.reduceSub, Int.reduceAdd, beq_self_eq_true, mSeq, mRet, mVar, mConst, ev1, ev2, mBool, mTru, mIfS, mIf, mSet, mAsg, mPar2, mSortSet, mSetI, mMeth, mBi, mCall, mTup, mLst, mSl, mPart, mAnd, mOr, mNotT, vAnd, vOr, mSkip, mIfs, mChain, mLenSet, mSetL, mFn, mGet2, miVal, miRange, miEnum, lS, lR, gVar, gTupD, gsCons, gsNil, shEnv, shIdx, inner, hideOwn, wipeE, kOf, frOf, fOut, List.getElem?_cons_zero, List.getElem?_cons_succ, List.getElem?_nil, List.set_cons_zero, List.set_cons_succ, List.map_cons, List.map_nil, List.length_cons, List.length_nil, Bool.false_eq_true, ↓reduceIte, Nat.reduceAdd, lc1, iterD, dTru, dIsaR, dIsa, dNot, cEqII, cNeII, cEqSS, cNeSS, cLtII, cLeII, cGtII, cGeII, cLtII', cLeII', bAdd, bSub, ixT0, ixL0, ixT1, ixL1, ixT2, ixL2, ixT3, biLenL, biLenT, Bool.not_true, Bool.not_false, Bool.true_and, Bool.false_and, Bool.and_true, Bool.and_false, biAll]
      cases q : ds.all (known bs) with
      | false => simp only [mAug, miZip, seqOf, inSignR, ninSignR, eqNil, eqNilT, inStrsT, inStrsL, biAll, biAny, true_and, and_true, and_self, Int.reducePow, Int.reduceNeg, Int.reduceToNat, rangeD, List.cons_append, List.nil_append, List.length_append, bAddL, bAddT, bMod, bNeg, biList, biListT, biTup, biTupT, biMax, isnB, isB, mDct0, sizeLine, Nat.reducePow, Nat.reduceLeDiff, cond_true, cond_false, Bool.not_eq_true, Int.cast_ofNat_Int, decide_true, decide_false, Int.reduceEq, Int.reduceLT, Int.reduceLE, Int.reduceSub, Int.reduceAdd, beq_self_eq_true, mSeq, mRet, mVar, mConst, ev1, ev2, mBool, mTru, mIfS, mIf, mSet, mAsg, mPar2, mSortSet, mSetI, mMeth, mBi, mCall, mTup, mLst, mSl, mPart, mAnd, mOr, mNotT, vAnd, vOr, mSkip, mIfs, mChain, mLenSet, mSetL, mFn, mGet2, miVal, miRange, miEnum, lS, lR, gVar, gTupD, gsCons, gsNil, shEnv, shIdx, inner, hideOwn, wipeE, kOf, frOf, fOut, List.getElem?_cons_zero, List.getElem?_cons_succ, List.getElem?_nil, List.set_cons_zero, List.set_cons_succ, List.map_cons, List.map_nil, List.length_cons, List.length_nil, Bool.false_eq_true, ↓reduceIte, Nat.reduceAdd, lc1, iterD, dTru, dIsaR, dIsa, dNot, cEqII, cNeII, cEqSS, cNeSS, cLtII, cLeII, cGtII, cGeII, cLtII', cLeII', bAdd, bSub, ixT0, ixL0, ixT1, ixL1, ixT2, ixL2, ixT3, biLenL, biLenT, Bool.not_true, Bool.not_false, Bool.true_and, Bool.false_and, Bool.and_true, Bool.and_false, ]
      | true =>
        obtain ⟨ns, rfl, _⟩ := known_strs q
        rw [List.length_map] at hf'
        simp only [mAug, miZip, seqOf, inSignR, ninSignR, eqNil, eqNilT, inStrsT, inStrsL, biAll, biAny, true_and, and_true, and_self, Int.reducePow, Int.reduceNeg, Int.reduceToNat, rangeD, List.cons_append, List.nil_append, List.length_append, bAddL, bAddT, bMod, bNeg, biList, biListT, biTup, biTupT, biMax, isnB, isB, mDct0, sizeLine, Nat.reducePow, Nat.reduceLeDiff, cond_true, cond_false, Bool.not_eq_true, Int.cast_ofNat_Int, decide_true, decide_false, Int.reduceEq, Int.reduceLT, Int.reduceLE, Int.reduceSub, Int.reduceAdd, beq_self_eq_true, mSeq, mRet, mVar, mConst, ev1, ev2, mBool, mTru, mIfS, mIf, mSet, mAsg, mPar2, mSortSet, mSetI, mMeth, mBi, mCall, mTup, mLst, mSl, mPart, mAnd, mOr, mNotT, vAnd, vOr, mSkip, mIfs, mChain, mLenSet, mSetL, mFn, mGet2, miVal, miRange, miEnum, lS, lR, gVar, gTupD, gsCons, gsNil, shEnv, shIdx, inner, hideOwn, wipeE, kOf, frOf, fOut, List.getElem?_cons_zero, List.getElem?_cons_succ, List.getElem?_nil, List.set_cons_zero, List.set_cons_succ, List.map_cons, List.map_nil, List.length_cons, List.length_nil, Bool.false_eq_true, ↓reduceIte, Nat.reduceAdd, lc1, iterD, dTru, dIsaR, dIsa, dNot, cEqII, cNeII, cEqSS, cNeSS, cLtII, cLeII, cGtII, cGeII, cLtII', cLeII', bAdd, bSub, ixT0, ixL0, ixT1, ixL1, ixT2, ixL2, ixT3, biLenL, biLenT, Bool.not_true, Bool.not_false, Bool.true_and, Bool.false_and, Bool.and_true, Bool.and_false, keys_strs, List.length_map, if_pos hf', strsD_map, uniqLen]
  | _ => simp only [mAug, miZip, seqOf, inSignR, ninSignR, eqNil, eqNilT, inStrsT, inStrsL, biAll, biAny, true_and, and_true, and_self, Int.reducePow, Int.reduceNeg, Int.reduceToNat, rangeD, List.cons_append, List.nil_append, List.length_append, bAddL, bAddT, bMod, bNeg, biList, biListT, biTup, biTupT, biMax, isnB, isB, mDct0, sizeLine, Nat.reducePow, Nat.reduceLeDiff, cond_true, cond_false, Bool.not_eq_true, Int.cast_ofNat_Int, decide_true, decide_false, Int.reduceEq, Int.reduceLT, Int.reduceLE, Int.reduceSub, Int.reduceAdd, beq_self_eq_true, mSeq, mRet, mVar, mConst, ev1, ev2, mBool, mTru, mIfS, mIf, mSet, mAsg, mPar2, mSortSet, mSetI, mMeth, mBi, mCall, mTup, mLst, mSl, mPart, mAnd, mOr, mNotT, vAnd, vOr, mSkip, mIfs, mChain, mLenSet, mSetL, mFn, mGet2, miVal, miRange, miEnum, lS, lR, gVar, gTupD, gsCons, gsNil, shEnv, shIdx, inner, hideOwn, wipeE, kOf, frOf, fOut, List.getElem?_cons_zero, List.getElem?_cons_succ, List.getElem?_nil, List.set_cons_zero, List.set_cons_succ, List.map_cons, List.map_nil, List.length_cons, List.length_nil, Bool.false_eq_true, ↓reduceIte, Nat.reduceAdd, lc1, iterD, dTru, dIsaR, dIsa, dNot, cEqII, cNeII, cEqSS, cNeSS, cLtII, cLeII, cGtII, cGeII, cLtII', cLeII', bAdd, bSub, ixT0, ixL0, ixT1, ixL1, ixT2, ixL2, ixT3, biLenL, biLenT, Bool.not_true, Bool.not_false, Bool.true_and, Bool.false_and, Bool.and_true, Bool.and_false, areNames]
/-! ### rows -/
def rowOk (szs : List Int) : D → Bool
  | .tuple ds => decide (ds.length = szs.length) && (ds.zip szs).all fun p => isWithin p.1 0 (p.2 - 1)
  | _ => false
theorem p_row (k : Nat) (szs : List Int) (d : D) : CF (k + 3) "is_worths_row" [.list (szs.map PyData.int), d] = some (.bool (rowOk szs d), false) := by
  rw [c_is_worths_row]
  unfold b_is_worths_row
  cases d with
  | tuple ds =>
    by_cases h : ds.length = szs.length
    · have h' : ((ds.length : Nat) : Int) = (szs.length : Nat) := by omega
      simp only [mAug, miZip, seqOf, inSignR, ninSignR, eqNil, eqNilT, inStrsT, inStrsL, biAll, biAny, true_and, and_true, and_self, Int.reducePow, Int.reduceNeg, Int.reduceToNat, rangeD, List.cons_append, List.nil_append, List.length_append, bAddL, bAddT, bMod, bNeg, biList, biListT, biTup, biTupT, biMax, isnB, isB, mDct0, sizeLine, Nat.reducePow, Nat.reduceLeDiff, cond_true, cond_false, Bool.not_eq_true, Int.cast_ofNat_Int, decide_true, decide_false, Int.reduceEq, Int.reduceLT, Int.reduceLE, Int.reduceSub, Int.reduceAdd, beq_self_eq_true, mSeq, mRet, mVar, mConst, ev1, ev2, mBool, mTru, mIfS, mIf, mSet, mAsg, mPar2, mSortSet, mSetI, mMeth, mBi, mCall, mTup, mLst, mSl, mPart, mAnd, mOr, mNotT, vAnd, vOr, mSkip, mIfs, mChain, mLenSet, mSetL, mFn, mGet2, miVal, miRange, miEnum, lS, lR, gVar, gTupD, gsCons, gsNil, shEnv, shIdx, inner, hideOwn, wipeE, kOf, frOf, fOut, List.getElem?_cons_zero, List.getElem?_cons_succ, List.getElem?_nil, List.set_cons_zero, List.set_cons_succ, List.map_cons, List.map_nil, List.length_cons, List.length_nil, Bool.false_eq_true, ↓reduceIte, Nat.reduceAdd, lc1, iterD, dTru, dIsaR, dIsa, dNot, cEqII, cNeII, cEqSS, cNeSS, cLtII, cLeII, cGtII, cGeII, cLtII', cLeII', bAdd, bSub, ixT0, ixL0, ixT1, ixL1, ixT2, ixL2, ixT3, biLenL, biLenT, Bool.not_true, Bool.not_false, Bool.true_and, Bool.false_and, Bool.and_true, Bool.and_false, h', List.length_map, h, mLc, rowOk, zipD_mapR]
      rw [lcMapA (f := fun p : D × Int => PyData.tuple [p.1, .int p.2]) (fun p => .bool (isWithin p.1 0 (p.2 - 1))) (fun p _ => by simp only [mAug, miZip, seqOf, inSignR, ninSignR, eqNil, eqNilT, inStrsT, inStrsL, biAll, biAny, true_and, and_true, and_self, Int.reducePow, Int.reduceNeg, Int.reduceToNat, rangeD, List.cons_append, List.nil_append, List.length_append, bAddL, bAddT, bMod, bNeg, biList, biListT, biTup, biTupT, biMax, isnB, isB, mDct0, sizeLine, Nat.reducePow, Nat.reduceLeDiff, cond_true, cond_false, Bool.not_eq_true, Int.cast_ofNat_Int, decide_true, decide_false, Int.reduceEq, Int.reduceLT, Int.reduceLE, Int.reduceSub, Int.reduceAdd, beq_self_eq_true, mSeq, mRet, mVar, mConst, ev1, ev2, mBool, mTru, mIfS, mIf, mSet, mAsg, mPar2, mSortSet, mSetI, mMeth, mBi, mCall, mTup, mLst, mSl, mPart, mAnd, mOr, mNotT, vAnd, vOr, mSkip, mIfs, mChain, mLenSet, mSetL, mFn, mGet2, miVal, miRange, miEnum, lS, lR, gVar, gTupD, gsCons, gsNil, shEnv, shIdx, inner, hideOwn, wipeE, kOf, frOf, fOut, List.getElem?_cons_zero, List.getElem?_cons_succ, List.getElem?_nil, List.set_cons_zero, List.set_cons_succ, List.map_cons, List.map_nil, List.length_cons, List.length_nil, Bool.false_eq_true, ↓reduceIte, Nat.reduceAdd, lc1, iterD, dTru, dIsaR, dIsa, dNot, cEqII, cNeII, cEqSS, cNeSS, cLtII, cLeII, cGtII, cGeII, cLtII', cLeII', bAdd, bSub, ixT0, ixL0, ixT1, ixL1, ixT2, ixL2, ixT3, biLenL, biLenT, Bool.not_true, Bool.not_false, Bool.true_and, Bool.false_and, Bool.and_true, Bool.and_false, p_is_within])]
      simp only [mAug, miZip, seqOf, inSignR, ninSignR, eqNil, eqNilT, inStrsT, inStrsL, biAll, biAny, true_and, and_true, and_self, Int.reducePow, Int.reduceNeg, Int.reduceToNat, rangeD, List.cons_append, List.nil_append, List.length_append, bAddL, bAddT, bMod, bNeg, biList, biListT, biTup, biTupT, biMax, isnB, isB, mDct0, sizeLine, Nat.reducePow, Nat.reduceLeDiff, cond_true, cond_false, Bool.not_eq_true, Int.cast_ofNat_Int, decide_true, decide_false, Int.reduceEq, Int.reduceLT, Int.reduceLE, Int.reduceSub, Int.reduceAdd, beq_self_eq_true, mSeq, mRet, mVar, mConst, ev1, ev2, mBool, mTru, mIfS, mIf, mSet, mAsg, mPar2, mSortSet, mSetI, mMeth, mBi, mCall, mTup, mLst, mSl, mPart, mAnd, mOr, mNotT, vAnd, vOr, mSkip, mIfs, mChain, mLenSet, mSetL, mFn, mGet2, miVal, miRange, miEnum, lS, lR, gVar, gTupD, gsCons, gsNil, shEnv, shIdx, inner, hideOwn, wipeE, kOf, frOf, fOut, List.getElem?_cons_zero, List.getElem?_cons_succ, List.getElem?_nil, List.set_cons_zero, List.set_cons_succ, List.map_cons, List.map_nil, List.length_cons, List.length_nil, Bool.false_eq_true, ↓reduceIte, Nat.reduceAdd, lc1, iterD, dTru, dIsaR, dIsa, dNot, cEqII, cNeII, cEqSS, cNeSS, cLtII, cLeII, cGtII, cGeII, cLtII', cLeII', bAdd, bSub, ixT0, ixL0, ixT1, ixL1, ixT2, ixL2, ixT3, biLenL, biLenT, Bool.not_true, Bool.not_false, Bool.true_and, Bool.false_and, Bool.and_true, Bool.and_false, biAll]
    · have h' : ¬ ((ds.length : Nat) : Int) = (szs.length : Nat) := by omega
      simp only [mAug, miZip, seqOf, inSignR, ninSignR, eqNil, eqNilT, inStrsT, inStrsL, biAll, biAny, true_and, and_true, and_self, Int.reducePow, Int.reduceNeg, Int.reduceToNat, rangeD, List.cons_append, List.nil_append, List.length_append, bAddL, bAddT, bMod, bNeg, biList, biListT, biTup, biTupT, biMax, isnB, isB, mDct0, sizeLine, Nat.reducePow, Nat.reduceLeDiff, cond_true, cond_false, Bool.not_eq_true, Int.cast_ofNat_Int, decide_true, decide_false, Int.reduceEq, Int.reduceLT, Int.reduceLE, Int.reduceSub, Int.reduceAdd, beq_self_eq_true, mSeq, mRet, mVar, mConst, ev1, ev2, mBool, mTru, mIfS, mIf, mSet, mAsg, mPar2, mSortSet, mSetI, mMeth, mBi, mCall, mTup, mLst, mSl, mPart, mAnd, mOr, mNotT, vAnd, vOr, mSkip, mIfs, mChain, mLenSet, mSetL, mFn, mGet2, miVal, miRange, miEnum, lS, lR, gVar, gTupD, gsCons, gsNil, shEnv, shIdx, inner, hideOwn, wipeE, kOf, frOf, fOut, List.getElem?_cons_zero, List.getElem?_cons_succ, List.getElem?_nil, List.set_cons_zero, List.set_cons_succ, List.map_cons, List.map_nil, List.length_cons, List.length_nil, Bool.false_eq_true, ↓reduceIte, Nat.reduceAdd, lc1, iterD, dTru, dIsaR, dIsa, dNot, cEqII, cNeII, cEqSS, cNeSS, cLtII, cLeII, cGtII, cGeII, cLtII', cLeII', bAdd, bSub, ixT0, ixL0, ixT1, ixL1, ixT2, ixL2, ixT3, biLenL, biLenT, Bool.not_true, Bool.not_false, Bool.true_and, Bool.false_and, Bool.and_true, Bool.and_false, h', List.length_map, h, rowOk]
  | _ => simp only [mAug, miZip, seqOf, inSignR, ninSignR, eqNil, eqNilT, inStrsT, inStrsL, biAll, biAny, true_and, and_true, and_self, Int.reducePow, Int.reduceNeg, Int.reduceToNat, rangeD, List.cons_append, List.nil_append, List.length_append, bAddL, bAddT, bMod, bNeg, biList, biListT, biTup, biTupT, biMax, isnB, isB, mDct0, sizeLine, Nat.reducePow, Nat.reduceLeDiff, cond_true, cond_false, Bool.not_eq_true, Int.cast_ofNat_Int, decide_true, decide_false, Int.reduceEq, Int.reduceLT, Int.reduceLE, Int.reduceSub, Int.reduceAdd, beq_self_eq_true, mSeq, mRet, mVar, mConst, ev1, ev2, mBool, mTru, mIfS, mIf, mSet, mAsg, mPar2, mSortSet, mSetI, mMeth, mBi, mCall, mTup, mLst, mSl, mPart, mAnd, mOr, mNotT, vAnd, vOr, mSkip, mIfs, mChain, mLenSet, mSetL, mFn, mGet2, miVal, miRange, miEnum, lS, lR, gVar, gTupD, gsCons, gsNil, shEnv, shIdx, inner, hideOwn, wipeE, kOf, frOf, fOut, List.getElem?_cons_zero, List.getElem?_cons_succ, List.getElem?_nil, List.set_cons_zero, List.set_cons_succ, List.map_cons, List.map_nil, List.length_cons, List.length_nil, Bool.false_eq_true, ↓reduceIte, Nat.reduceAdd, lc1, iterD, dTru, dIsaR, dIsa, dNot, cEqII, cNeII, cEqSS, cNeSS, cLtII, cLeII, cGtII, cGeII, cLtII', cLeII', bAdd, bSub, ixT0, ixL0, ixT1, ixL1, ixT2, ixL2, ixT3, biLenL, biLenT, Bool.not_true, Bool.not_false, Bool.true_and, Bool.false_and, Bool.and_true, Bool.and_false, rowOk]
def intsD : D → List Int
  | .tuple ds => ds.filterMap fun d => match d with
    | .int i => some i
    | _ => none
  | _ => []
theorem row_ints' : ∀ {ds : List D} {szs : List Int}, ds.length = szs.length → ((ds.zip szs).all fun p => isWithin p.1 0 (p.2 - 1)) = true → ds = (intsD (.tuple ds)).map PyData.int
  | [], _, _, _ => rfl
  | d :: ds, [], h, _ => by cases h
  | d :: ds, z :: szs, h, h2 => by
    rw [List.zip_cons_cons, List.all_cons, Bool.and_eq_true] at h2
    have ih := row_ints' (by simpa using h) h2.2
    cases d with
    | int i =>
      show _ = (i :: intsD (.tuple ds)).map PyData.int
      rw [List.map_cons, ← ih]
    | _ => cases h2.1
theorem row_ints {szs : List Int} {d : D} (h : rowOk szs d = true) : d = wTup (intsD d) := by
  cases d with
  | tuple ds =>
    unfold rowOk at h
    rw [Bool.and_eq_true] at h
    unfold wTup
    rw [← row_ints' (of_decide_eq_true h.1) h.2]
  | _ => cases h
theorem rows_ints {szs : List Int} : ∀ {ds : List D}, ds.all (rowOk szs) = true → ds = (ds.map intsD).map wTup
  | [], _ => rfl
  | d :: ds, h => by
    rw [List.all_cons, Bool.and_eq_true] at h
    rw [List.map_cons, List.map_cons, ← row_ints h.1, ← rows_ints h.2]
theorem asInts_map : ∀ ns : List Int, asInts (ns.map PyData.int) = some ns
  | [] => rfl
  | n :: ns => by
    rw [List.map_cons]
    simp only [asInts, asInts_map ns, Option.map_some]
theorem ltT (x y : List Int) : dCmpR .Lt (wTup x) (wTup y) = some (.bool (HT.lexLt x y), false) := eCmp (by
  show dCmp .Lt (.tuple _) (.tuple _) = _
  simp only [dCmp, asInts_map])
def risB (ts : List (List Int)) : Bool := (ts.zip (ts.drop 1)).all fun p => HT.lexLt p.1 p.2
def areRows (szs : List Int) : D → Bool
  | .tuple ds => ds.all (rowOk szs) && risB (ds.map intsD)
  | _ => false
theorem p_are_rows (k : Nat) (bs : List Bx) (ns : List Str) (hn : ∀ n ∈ ns, isKn bs n = true) (d : D) : CF (k + 4) "are_rows" [.list (bs.map Bx.d), .tuple (ns.map PyData.str), d] = some (.bool (areRows (ns.map (szOf bs)) d), false) := by
  have e1 : (ns.map fun n => PyData.int (szOf bs n)) = (ns.map (szOf bs)).map PyData.int := by rw [List.map_map]; rfl
  rw [c_are_rows]
  unfold b_are_rows
  simp only [mAug, miZip, seqOf, inSignR, ninSignR, eqNil, eqNilT, inStrsT, inStrsL, biAll, biAny, true_and, and_true, and_self, Int.reducePow, Int.reduceNeg, Int.reduceToNat, rangeD, List.cons_append, List.nil_append, List.length_append, bAddL, bAddT, bMod, bNeg, biList, biListT, biTup, biTupT, biMax, isnB, isB, mDct0, sizeLine, Nat.reducePow, Nat.reduceLeDiff, cond_true, cond_false, Bool.not_eq_true, Int.cast_ofNat_Int, decide_true, decide_false, Int.reduceEq, Int.reduceLT, Int.reduceLE, Int.reduceSub, Int.reduceAdd, beq_self_eq_true, mSeq, mRet, mVar, mConst, ev1, ev2, mBool, mTru, mIfS, mIf, mSet, mAsg, mPar2, mSortSet, mSetI, mMeth, mBi, mCall, mTup, mLst, mSl, mPart, mAnd, mOr, mNotT, vAnd, vOr, mSkip, mIfs, mChain, mLenSet, mSetL, mFn, mGet2, miVal, miRange, miEnum, lS, lR, gVar, gTupD, gsCons, gsNil, shEnv, shIdx, inner, hideOwn, wipeE, kOf, frOf, fOut, List.getElem?_cons_zero, List.getElem?_cons_succ, List.getElem?_nil, List.set_cons_zero, List.set_cons_succ, List.map_cons, List.map_nil, List.length_cons, List.length_nil, Bool.false_eq_true, ↓reduceIte, Nat.reduceAdd, lc1, iterD, dTru, dIsaR, dIsa, dNot, cEqII, cNeII, cEqSS, cNeSS, cLtII, cLeII, cGtII, cGeII, cLtII', cLeII', bAdd, bSub, ixT0, ixL0, ixT1, ixL1, ixT2, ixL2, ixT3, biLenL, biLenT, Bool.not_true, Bool.not_false, Bool.true_and, Bool.false_and, Bool.and_true, Bool.and_false, mLc]
  rw [lcMapA (f := PyData.str) (fun n => .int (szOf bs n)) (fun n hm => by simp only [mAug, miZip, seqOf, inSignR, ninSignR, eqNil, eqNilT, inStrsT, inStrsL, biAll, biAny, true_and, and_true, and_self, Int.reducePow, Int.reduceNeg, Int.reduceToNat, rangeD, List.cons_append, List.nil_append, List.length_append, bAddL, bAddT, bMod, bNeg, biList, biListT, biTup, biTupT, biMax, isnB, isB, mDct0, sizeLine, Nat.reducePow, Nat.reduceLeDiff, cond_true, cond_false, Bool.not_eq_true, Int.cast_ofNat_Int, decide_true, decide_false, Int.reduceEq, Int.reduceLT, Int.reduceLE, Int.reduceSub, Int.reduceAdd, beq_self_eq_true, mSeq, mRet, mVar, mConst, ev1, ev2, mBool, mTru, mIfS, mIf, mSet, mAsg, mPar2, mSortSet, mSetI, mMeth, mBi, mCall, mTup, mLst, mSl, mPart, mAnd, mOr, mNotT, vAnd, vOr, mSkip, mIfs, mChain, mLenSet, mSetL, mFn, mGet2, miVal, miRange, miEnum, lS, lR, gVar, gTupD, gsCons, gsNil, shEnv, shIdx, inner, hideOwn, wipeE, kOf, frOf, fOut, List.getElem?_cons_zero, List.getElem?_cons_succ, List.getElem?_nil, List.set_cons_zero, List.set_cons_succ, List.map_cons, List.map_nil, List.length_cons, List.length_nil, Bool.false_eq_true, ↓reduceIte, Nat.reduceAdd, lc1, iterD, dTru, dIsaR, dIsa, dNot, cEqII, cNeII, cEqSS, cNeSS, cLtII, cLeII, cGtII, cGeII, cLtII', cLeII', bAdd, bSub, ixT0, ixL0, ixT1, ixL1, ixT2, ixL2, ixT3, biLenL, biLenT, Bool.not_true, Bool.not_false, Bool.true_and, Bool.false_and, Bool.and_true, Bool.and_false, p_size (k + 2) bs n (hn n hm)]), e1]
  cases d with
  | tuple ds =>
    simp only [mAug, miZip, seqOf, inSignR, ninSignR, eqNil, eqNilT, inStrsT, inStrsL, biAll, biAny, true_and, and_true, and_self, Int.reducePow, Int.reduceNeg, Int.reduceToNat, rangeD, List.cons_append, List.nil_append, List.length_append, bAddL, bAddT, bMod, bNeg, biList, biListT, biTup, biTupT, biMax, isnB, isB, mDct0, sizeLine, Nat.reducePow, Nat.reduceLeDiff, cond_true, cond_false, Bool.not_eq_true, Int.cast_ofNat_Int, decide_true, decide_false, Int.reduceEq, Int.reduceLT, Int.reduceLE, Int.reduceSub, Int.reduceAdd, beq_self_eq_true, mSeq, mRet, mVar, mConst, ev1, ev2, mBool, mTru, mIfS, mIf, mSet, mAsg, mPar2, mSortSet, mSetI, mMeth, mBi, mCall, mTup, mLst, mSl, mPart, mAnd, mOr, mNotT, vAnd, vOr, mSkip, mIfs, mChain, mLenSet, mSetL, mFn, mGet2, miVal, miRange, miEnum, lS, lR, gVar, gTupD, gsCons, gsNil, shEnv, shIdx, inner, hideOwn, wipeE, kOf, frOf, fOut, List.getElem?_cons_zero, List.getElem?_cons_succ, List.getElem?_nil, List.set_cons_zero, List.set_cons_succ, List.map_cons, List.map_nil, List.length_cons, List.length_nil, Bool.false_eq_true, ↓reduceIte, Nat.reduceAdd, lc1, iterD, dTru, dIsaR, dIsa, dNot, cEqII, cNeII, cEqSS, cNeSS, cLtII, cLeII, cGtII, cGeII, cLtII', cLeII', bAdd, bSub, ixT0, ixL0, ixT1, ixL1, ixT2, ixL2, ixT3, biLenL, biLenT, Bool.not_true, Bool.not_false, Bool.true_and, Bool.false_and, Bool.and_true, Bool.and_false, ]
    rw [lcMapD (fun d => .bool (rowOk (ns.map (szOf bs)) d)) (fun d _ => by simp only [mAug, miZip, seqOf, inSignR, ninSignR, eqNil, eqNilT, inStrsT, inStrsL, biAll, biAny, true_and, and_true, and_self, Int.reducePow, Int.reduceNeg, Int.reduceToNat, rangeD, List.cons_append, List.nil_append, List.length_append, bAddL, bAddT, bMod, bNeg, biList, biListT, biTup, biTupT, biMax, isnB, isB, mDct0, sizeLine, Nat.reducePow, Nat.reduceLeDiff, cond_true, cond_false, Bool.not_eq_true, Int.cast_ofNat_Int, decide_true, decide_false, Int.reduceEq, Int.reduceLT, Int.reduceLE, Int.reduceSub, Int.reduceAdd, beq_self_eq_true, mSeq, mRet, mVar, mConst, ev1, ev2, mBool, mTru, mIfS, mIf, mSet, mAsg, mPar2, mSortSet, mSetI, mMeth, mBi, mCall, mTup, mLst, mSl, mPart, mAnd, mOr, mNotT, vAnd, vOr, mSkip, mIfs, mChain, mLenSet, mSetL, mFn, mGet2, miVal, miRange, miEnum, lS, lR, gVar, gTupD, gsCons, gsNil, shEnv, shIdx, inner, hideOwn, wipeE, kOf, frOf, fOut, List.getElem?_cons_zero, List.getElem?_cons_succ, List.getElem?_nil, List.set_cons_zero, List.set_cons_succ, List.map_cons, List.map_nil, List.length_cons, List.length_nil, Bool.false_eq_true, ↓reduceIte, Nat.reduceAdd, lc1, iterD, dTru, dIsaR, dIsa, dNot, cEqII, cNeII, cEqSS, cNeSS, cLtII, cLeII, cGtII, cGeII, cLtII', cLeII', bAdd, bSub, ixT0, ixL0, ixT1, ixL1, ixT2, ixL2, ixT3, biLenL, biLenT, Bool.not_true, Bool.not_false, Bool.true_and, Bool.false_and, Bool.and_true, Bool.and_false, p_row])]
    simp only [mAug, miZip, seqOf, inSignR, ninSignR, eqNil, eqNilT, inStrsT, inStrsL, biAll, biAny, true_and, and_true, and_self, Int.reducePow, Int.reduceNeg, Int.reduceToNat, rangeD, List.cons_append, List.nil_append, List.length_append, bAddL, bAddT, bMod, bNeg, biList, biListT, biTup, biTupT, biMax, isnB, isB, mDct0, sizeLine, Nat.reducePow, Nat.reduceLeDiff, cond_true, cond_false, Bool.not_eq_true, Int.cast_ofNat_Int, decide_true, decide_false, Int.reduceEq, Int.reduceLT, Int.reduceLE, Int.reduceSub, Int.reduceAdd, beq_self_eq_true, mSeq, mRet, mVar, mConst, ev1, ev2, mBool, mTru, mIfS, mIf, mSet, mAsg, mPar2, mSortSet, mSetI, mMeth, mBi, mCall, mTup, mLst, mSl, mPart, mAnd, mOr, mNotT, vAnd, vOr, mSkip, mIfs, mChain, mLenSet, mSetL, mFn, mGet2, miVal, miRange, miEnum, lS, lR, gVar, gTupD, gsCons, gsNil, shEnv, shIdx, inner, hideOwn, wipeE, kOf, frOf, fOut, List.getElem?_cons_zero, List.getElem?_cons_succ, List.getElem?_nil, List.set_cons_zero, List.set_cons_succ, List.map_cons, List.map_nil, List.length_cons, List.length_nil, Bool.false_eq_true, ↓reduceIte, Nat.reduceAdd, lc1, iterD, dTru, dIsaR, dIsa, dNot, cEqII, cNeII, cEqSS, cNeSS, cLtII, cLeII, cGtII, cGeII, cLtII', cLeII', bAdd, bSub, ixT0, ixL0, ixT1, ixL1, ixT2, ixL2, ixT3, biLenL, biLenT, Bool.not_true, Bool.not_false, Bool.true_and, Bool.false_and, Bool.and_true, Bool.and_false, biAll, areRows]
    cases q : ds.all (rowOk (ns.map (szOf bs))) with
    | false => simp only [mAug, miZip, seqOf, inSignR, ninSignR, eqNil, eqNilT, inStrsT, inStrsL, biAll, biAny, true_and, and_true, and_self, Int.reducePow, Int.reduceNeg, Int.reduceToNat, rangeD, List.cons_append, List.nil_append, List.length_append, bAddL, bAddT, bMod, bNeg, biList, biListT, biTup, biTupT, biMax, isnB, isB, mDct0, sizeLine, Nat.reducePow, Nat.reduceLeDiff, cond_true, cond_false, Bool.not_eq_true, Int.cast_ofNat_Int, decide_true, decide_false, Int.reduceEq, Int.reduceLT, Int.reduceLE, Int.reduceSub, Int.reduceAdd, beq_self_eq_true, mSeq, mRet, mVar, mConst, ev1, ev2, mBool, mTru, mIfS, mIf, mSet, mAsg, mPar2, mSortSet, mSetI, mMeth, mBi, mCall, mTup, mLst, mSl, mPart, mAnd, mOr, mNotT, vAnd, vOr, mSkip, mIfs, mChain, mLenSet, mSetL, mFn, mGet2, miVal, miRange, miEnum, lS, lR, gVar, gTupD, gsCons, gsNil, shEnv, shIdx, inner, hideOwn, wipeE, kOf, frOf, fOut, List.getElem?_cons_zero, List.getElem?_cons_succ, List.getElem?_nil, List.set_cons_zero, List.set_cons_succ, List.map_cons, List.map_nil, List.length_cons, List.length_nil, Bool.false_eq_true, ↓reduceIte, Nat.reduceAdd, lc1, iterD, dTru, dIsaR, dIsa, dNot, cEqII, cNeII, cEqSS, cNeSS, cLtII, cLeII, cGtII, cGeII, cLtII', cLeII', bAdd, bSub, ixT0, ixL0, ixT1, ixL1, ixT2, ixL2, ixT3, biLenL, biLenT, Bool.not_true, Bool.not_false, Bool.true_and, Bool.false_and, Bool.and_true, Bool.and_false, ]
    | true =>
      have hcut : dSl (.tuple ((ds.map intsD).map wTup)) (some 1) none = some (.tuple (((ds.map intsD).drop 1).map wTup), false) := by
        simp only [dSl]
        rw [show (1 : Int) = ((1 : Nat) : Int) from rfl, cutDrop, List.map_drop]
      have e := rows_ints q
      generalize htt : ds.map intsD = ts at *
      rw [e]
      simp only [mAug, miZip, seqOf, inSignR, ninSignR, eqNil, eqNilT, inStrsT, inStrsL, biAll, biAny, true_and, and_true, and_self, Int.reducePow, Int.reduceNeg, Int.reduceToNat, rangeD, List.cons_append, List.nil_append, List.length_append, bAddL, bAddT, bMod, bNeg, biList, biListT, biTup, biTupT, biMax, isnB, isB, mDct0, sizeLine, Nat.reducePow, Nat.reduceLeDiff, cond_true, cond_false, Bool.not_eq_true, Int.cast_ofNat_Int, decide_true, decide_false, Int.reduceEq, Int.reduceLT, Int.reduceLE, Int.reduceSub, Int.reduceAdd, beq_self_eq_true, mSeq, mRet, mVar, mConst, ev1, ev2, mBool, mTru, mIfS, mIf, mSet, mAsg, mPar2, mSortSet, mSetI, mMeth, mBi, mCall, mTup, mLst, mSl, mPart, mAnd, mOr, mNotT, vAnd, vOr, mSkip, mIfs, mChain, mLenSet, mSetL, mFn, mGet2, miVal, miRange, miEnum, lS, lR, gVar, gTupD, gsCons, gsNil, shEnv, shIdx, inner, hideOwn, wipeE, kOf, frOf, fOut, List.getElem?_cons_zero, List.getElem?_cons_succ, List.getElem?_nil, List.set_cons_zero, List.set_cons_succ, List.map_cons, List.map_nil, List.length_cons, List.length_nil, Bool.false_eq_true, ↓reduceIte, Nat.reduceAdd, lc1, iterD, dTru, dIsaR, dIsa, dNot, cEqII, cNeII, cEqSS, cNeSS, cLtII, cLeII, cGtII, cGeII, cLtII', cLeII', bAdd, bSub, ixT0, ixL0, ixT1, ixL1, ixT2, ixL2, ixT3, biLenL, biLenT, Bool.not_true, Bool.not_false, Bool.true_and, Bool.false_and, Bool.and_true, Bool.and_false, hcut, zipD_map]
      rw [lcMapA (f := fun p : List Int × List Int => PyData.tuple [wTup p.1, wTup p.2]) (fun p => .bool (HT.lexLt p.1 p.2)) (fun p _ => by simp only [mAug, miZip, seqOf, inSignR, ninSignR, eqNil, eqNilT, inStrsT, inStrsL, biAll, biAny, true_and, and_true, and_self, Int.reducePow, Int.reduceNeg, Int.reduceToNat, rangeD, List.cons_append, List.nil_append, List.length_append, bAddL, bAddT, bMod, bNeg, biList, biListT, biTup, biTupT, biMax, isnB, isB, mDct0, sizeLine, Nat.reducePow, Nat.reduceLeDiff, cond_true, cond_false, Bool.not_eq_true, Int.cast_ofNat_Int, decide_true, decide_false, Int.reduceEq, Int.reduceLT, Int.reduceLE, Int.reduceSub, Int.reduceAdd, beq_self_eq_true, mSeq, mRet, mVar, mConst, ev1, ev2, mBool, mTru, mIfS, mIf, mSet, mAsg, mPar2, mSortSet, mSetI, mMeth, mBi, mCall, mTup, mLst, mSl, mPart, mAnd, mOr, mNotT, vAnd, vOr, mSkip, mIfs, mChain, mLenSet, mSetL, mFn, mGet2, miVal, miRange, miEnum, lS, lR, gVar, gTupD, gsCons, gsNil, shEnv, shIdx, inner, hideOwn, wipeE, kOf, frOf, fOut, List.getElem?_cons_zero, List.getElem?_cons_succ, List.getElem?_nil, List.set_cons_zero, List.set_cons_succ, List.map_cons, List.map_nil, List.length_cons, List.length_nil, Bool.false_eq_true, ↓reduceIte, Nat.reduceAdd, lc1, iterD, dTru, dIsaR, dIsa, dNot, cEqII, cNeII, cEqSS, cNeSS, cLtII, cLeII, cGtII, cGeII, cLtII', cLeII', bAdd, bSub, ixT0, ixL0, ixT1, ixL1, ixT2, ixL2, ixT3, biLenL, biLenT, Bool.not_true, Bool.not_false, Bool.true_and, Bool.false_and, Bool.and_true, Bool.and_false, ltT])]
      simp only [mAug, miZip, seqOf, inSignR, ninSignR, eqNil, eqNilT, inStrsT, inStrsL, biAll, biAny, true_and, and_true, and_self, Int.reducePow, Int.reduceNeg, Int.reduceToNat, rangeD, List.cons_append, List.nil_append, List.length_append, bAddL, bAddT, bMod, bNeg, biList, biListT, biTup, biTupT, biMax, isnB, isB, mDct0, sizeLine, Nat.reducePow, Nat.reduceLeDiff, cond_true, cond_false, Bool.not_eq_true, Int.cast_ofNat_Int, decide_true, decide_false, Int.reduceEq, Int.reduceLT, Int.reduceLE, Int.reduceSub, Int.reduceAdd, beq_self_eq_true, mSeq, mRet, mVar, mConst, ev1, ev2, mBool, mTru, mIfS, mIf, mSet, mAsg, mPar2, mSortSet, mSetI, mMeth, mBi, mCall, mTup, mLst, mSl, mPart, mAnd, mOr, mNotT, vAnd, vOr, mSkip, mIfs, mChain, mLenSet, mSetL, mFn, mGet2, miVal, miRange, miEnum, lS, lR, gVar, gTupD, gsCons, gsNil, shEnv, shIdx, inner, hideOwn, wipeE, kOf, frOf, fOut, List.getElem?_cons_zero, List.getElem?_cons_succ, List.getElem?_nil, List.set_cons_zero, List.set_cons_succ, List.map_cons, List.map_nil, List.length_cons, List.length_nil, Bool.false_eq_true, ↓reduceIte, Nat.reduceAdd, lc1, iterD, dTru, dIsaR, dIsa, dNot, cEqII, cNeII, cEqSS, cNeSS, cLtII, cLeII, cGtII, cGeII, cLtII', cLeII', bAdd, bSub, ixT0, ixL0, ixT1, ixL1, ixT2, ixL2, ixT3, biLenL, biLenT, Bool.not_true, Bool.not_false, Bool.true_and, Bool.false_and, Bool.and_true, Bool.and_false, biAll, risB]
  | _ => simp only [mAug, miZip, seqOf, inSignR, ninSignR, eqNil, eqNilT, inStrsT, inStrsL, biAll, biAny, true_and, and_true, and_self, Int.reducePow, Int.reduceNeg, Int.reduceToNat, rangeD, List.cons_append, List.nil_append, List.length_append, bAddL, bAddT, bMod, bNeg, biList, biListT, biTup, biTupT, biMax, isnB, isB, mDct0, sizeLine, Nat.reducePow, Nat.reduceLeDiff, cond_true, cond_false, Bool.not_eq_true, Int.cast_ofNat_Int, decide_true, decide_false, Int.reduceEq, Int.reduceLT, Int.reduceLE, Int.reduceSub, Int.reduceAdd, beq_self_eq_true, mSeq, mRet, mVar, mConst, ev1, ev2, mBool, mTru, mIfS, mIf, mSet, mAsg, mPar2, mSortSet, mSetI, mMeth, mBi, mCall, mTup, mLst, mSl, mPart, mAnd, mOr, mNotT, vAnd, vOr, mSkip, mIfs, mChain, mLenSet, mSetL, mFn, mGet2, miVal, miRange, miEnum, lS, lR, gVar, gTupD, gsCons, gsNil, shEnv, shIdx, inner, hideOwn, wipeE, kOf, frOf, fOut, List.getElem?_cons_zero, List.getElem?_cons_succ, List.getElem?_nil, List.set_cons_zero, List.set_cons_succ, List.map_cons, List.map_nil, List.length_cons, List.length_nil, Bool.false_eq_true, ↓reduceIte, Nat.reduceAdd, lc1, iterD, dTru, dIsaR, dIsa, dNot, cEqII, cNeII, cEqSS, cNeSS, cLtII, cLeII, cGtII, cGeII, cLtII', cLeII', bAdd, bSub, ixT0, ixL0, ixT1, ixL1, ixT2, ixL2, ixT3, biLenL, biLenT, Bool.not_true, Bool.not_false, Bool.true_and, Bool.false_and, Bool.and_true, Bool.and_false, areRows]
end K02
set_option Elab.async false
set_option linter.all false
set_option maxRecDepth 100000
set_option maxHeartbeats 1000000
set_option autoImplicit false
namespace K02
open PySem PySem.Spec PyProof.Rows L2 HC
def among (bs : List Bx) (a b : D) : Bool := match a with
  | .tuple as => areNames bs (.tuple as) && areRows ((strsD as).map (szOf bs)) b
  | _ => false
def isA (bs : List Bx) (a b : D) : Bool := match a with
  | .str x => isKn bs x && isWithin b 0 (szOf bs x - 1)
  | _ => false
def leaf (bs : List Bx) (w : Str) (ds : List D) : Bool := bif w == "yes" then ds.isEmpty else match ds with
  | [a, b] => bif w == "is" then isA bs a b else bif w == "like" then known bs a && known bs b else (w == "among") && among bs a b
  | _ => false
mutual
def small : D → Bool
  | .tuple ds => decide (ds.length < 4000) && smalls ds
  | _ => true
def smalls : List D → Bool
  | [] => true
  | d :: ds => small d && smalls ds
end
theorem small_few {d : D} (h : small d = true) : few d := by
  cases d with
  | tuple ds =>
    simp only [small, Bool.and_eq_true] at h
    exact (of_decide_eq_true h.1 : ds.length < 4000)
  | _ => trivial
theorem smalls_mem : ∀ {ds : List D}, smalls ds = true → ∀ d ∈ ds, small d = true
  | [], _, d, hd => by cases hd
  | x :: ds, h, d, hd => by
    simp only [smalls, Bool.and_eq_true] at h
    rcases List.mem_cons.mp hd with e | hd
    · rw [e]; exact h.1
    · exact smalls_mem h.2 d hd
theorem smalls_of : ∀ {ds : List D}, (∀ d ∈ ds, small d = true) → smalls ds = true
  | [], _ => rfl
  | x :: ds, h => by
    simp only [smalls, Bool.and_eq_true]
    exact ⟨h x (List.mem_cons_self ..), smalls_of fun d hd => h d (List.mem_cons_of_mem _ hd)⟩
theorem small_tup {ds : List D} (h : small (.tuple ds) = true) : ∀ d ∈ ds, small d = true := by
  simp only [small, Bool.and_eq_true] at h
  exact smalls_mem h.2
theorem small_mk {ds : List D} (hl : ds.length < 4000) (h : ∀ d ∈ ds, small d = true) : small (.tuple ds) = true := by
  simp only [small, Bool.and_eq_true]
  exact ⟨decide_eq_true hl, smalls_of h⟩
theorem p_leaf (k : Nat) (bs : List Bx) (w : Str) (ds : List D) (hs : ∀ d ∈ ds, small d = true) : CF (k + 5) "is_leaf" [.list (bs.map Bx.d), .tuple (.str w :: ds)] = some (.bool (leaf bs w ds), false) := by
  rw [c_is_leaf]
  unfold b_is_leaf leaf
  simp only [mAug, miZip, seqOf, inSignR, ninSignR, eqNil, eqNilT, inStrsT, inStrsL, biAll, biAny, true_and, and_true, and_self, Int.reducePow, Int.reduceNeg, Int.reduceToNat, rangeD, List.cons_append, List.nil_append, List.length_append, bAddL, bAddT, bMod, bNeg, biList, biListT, biTup, biTupT, biMax, isnB, isB, mDct0, sizeLine, Nat.reducePow, Nat.reduceLeDiff, cond_true, cond_false, Bool.not_eq_true, Int.cast_ofNat_Int, decide_true, decide_false, Int.reduceEq, Int.reduceLT, Int.reduceLE, Int.reduceSub, Int.reduceAdd, beq_self_eq_true, mSeq, mRet, mVar, mConst, ev1, ev2, mBool, mTru, mIfS, mIf, mSet, mAsg, mPar2, mSortSet, mSetI, mMeth, mBi, mCall, mTup, mLst, mSl, mPart, mAnd, mOr, mNotT, vAnd, vOr, mSkip, mIfs, mChain, mLenSet, mSetL, mFn, mGet2, miVal, miRange, miEnum, lS, lR, gVar, gTupD, gsCons, gsNil, shEnv, shIdx, inner, hideOwn, wipeE, kOf, frOf, fOut, List.getElem?_cons_zero, List.getElem?_cons_succ, List.getElem?_nil, List.set_cons_zero, List.set_cons_succ, List.map_cons, List.map_nil, List.length_cons, List.length_nil, Bool.false_eq_true, ↓reduceIte, Nat.reduceAdd, lc1, iterD, dTru, dIsaR, dIsa, dNot, cEqII, cNeII, cEqSS, cNeSS, cLtII, cLeII, cGtII, cGeII, cLtII', cLeII', bAdd, bSub, ixT0, ixL0, ixT1, ixL1, ixT2, ixL2, ixT3, biLenL, biLenT, Bool.not_true, Bool.not_false, Bool.true_and, Bool.false_and, Bool.and_true, Bool.and_false, cEqSS]
  cases q0 : (w == "yes") with
  | true =>
    cases ds with
    | nil => simp only [mAug, miZip, seqOf, inSignR, ninSignR, eqNil, eqNilT, inStrsT, inStrsL, biAll, biAny, true_and, and_true, and_self, Int.reducePow, Int.reduceNeg, Int.reduceToNat, rangeD, List.cons_append, List.nil_append, List.length_append, bAddL, bAddT, bMod, bNeg, biList, biListT, biTup, biTupT, biMax, isnB, isB, mDct0, sizeLine, Nat.reducePow, Nat.reduceLeDiff, cond_true, cond_false, Bool.not_eq_true, Int.cast_ofNat_Int, decide_true, decide_false, Int.reduceEq, Int.reduceLT, Int.reduceLE, Int.reduceSub, Int.reduceAdd, beq_self_eq_true, mSeq, mRet, mVar, mConst, ev1, ev2, mBool, mTru, mIfS, mIf, mSet, mAsg, mPar2, mSortSet, mSetI, mMeth, mBi, mCall, mTup, mLst, mSl, mPart, mAnd, mOr, mNotT, vAnd, vOr, mSkip, mIfs, mChain, mLenSet, mSetL, mFn, mGet2, miVal, miRange, miEnum, lS, lR, gVar, gTupD, gsCons, gsNil, shEnv, shIdx, inner, hideOwn, wipeE, kOf, frOf, fOut, List.getElem?_cons_zero, List.getElem?_cons_succ, List.getElem?_nil, List.set_cons_zero, List.set_cons_succ, List.map_cons, List.map_nil, List.length_cons, List.length_nil, Bool.false_eq_true, ↓reduceIte, Nat.reduceAdd, lc1, iterD, dTru, dIsaR, dIsa, dNot, cEqII, cNeII, cEqSS, cNeSS, cLtII, cLeII, cGtII, cGeII, cLtII', cLeII', bAdd, bSub, ixT0, ixL0, ixT1, ixL1, ixT2, ixL2, ixT3, biLenL, biLenT, Bool.not_true, Bool.not_false, Bool.true_and, Bool.false_and, Bool.and_true, Bool.and_false, List.isEmpty_nil]
    | cons d ds =>
      have e : ¬ (((ds.length + 1 + 1 : Nat) : Int) = 1) := by omega
      simp only [mAug, miZip, seqOf, inSignR, ninSignR, eqNil, eqNilT, inStrsT, inStrsL, biAll, biAny, true_and, and_true, and_self, Int.reducePow, Int.reduceNeg, Int.reduceToNat, rangeD, List.cons_append, List.nil_append, List.length_append, bAddL, bAddT, bMod, bNeg, biList, biListT, biTup, biTupT, biMax, isnB, isB, mDct0, sizeLine, Nat.reducePow, Nat.reduceLeDiff, cond_true, cond_false, Bool.not_eq_true, Int.cast_ofNat_Int, decide_true, decide_false, Int.reduceEq, Int.reduceLT, Int.reduceLE, Int.reduceSub, Int.reduceAdd, beq_self_eq_true, mSeq, mRet, mVar, mConst, ev1, ev2, mBool, mTru, mIfS, mIf, mSet, mAsg, mPar2, mSortSet, mSetI, mMeth, mBi, mCall, mTup, mLst, mSl, mPart, mAnd, mOr, mNotT, vAnd, vOr, mSkip, mIfs, mChain, mLenSet, mSetL, mFn, mGet2, miVal, miRange, miEnum, lS, lR, gVar, gTupD, gsCons, gsNil, shEnv, shIdx, inner, hideOwn, wipeE, kOf, frOf, fOut, List.getElem?_cons_zero, List.getElem?_cons_succ, List.getElem?_nil, List.set_cons_zero, List.set_cons_succ, List.map_cons, List.map_nil, List.length_cons, List.length_nil, Bool.false_eq_true, ↓reduceIte, Nat.reduceAdd, lc1, iterD, dTru, dIsaR, dIsa, dNot, cEqII, cNeII, cEqSS, cNeSS, cLtII, cLeII, cGtII, cGeII, cLtII', cLeII', bAdd, bSub, ixT0, ixL0, ixT1, ixL1, ixT2, ixL2, ixT3, biLenL, biLenT, Bool.not_true, Bool.not_false, Bool.true_and, Bool.false_and, Bool.and_true, Bool.and_false, e, List.isEmpty_cons]
  | false =>
    simp only [mAug, miZip, seqOf, inSignR, ninSignR, eqNil, eqNilT, inStrsT, inStrsL, biAll, biAny, true_and, and_true, and_self, Int.reducePow, Int.reduceNeg, Int.reduceToNat, rangeD, List.cons_append, List.nil_append, List.length_append, bAddL, bAddT, bMod, bNeg, biList, biListT, biTup, biTupT, biMax, isnB, isB, mDct0, sizeLine, Nat.reducePow, Nat.reduceLeDiff, cond_true, cond_false, Bool.not_eq_true, Int.cast_ofNat_Int, decide_true, decide_false, Int.reduceEq, Int.reduceLT, Int.reduceLE, Int.reduceSub, Int.reduceAdd, beq_self_eq_true, mSeq, mRet, mVar, mConst, ev1, ev2, mBool, mTru, mIfS, mIf, mSet, mAsg, mPar2, mSortSet, mSetI, mMeth, mBi, mCall, mTup, mLst, mSl, mPart, mAnd, mOr, mNotT, vAnd, vOr, mSkip, mIfs, mChain, mLenSet, mSetL, mFn, mGet2, miVal, miRange, miEnum, lS, lR, gVar, gTupD, gsCons, gsNil, shEnv, shIdx, inner, hideOwn, wipeE, kOf, frOf, fOut, List.getElem?_cons_zero, List.getElem?_cons_succ, List.getElem?_nil, List.set_cons_zero, List.set_cons_succ, List.map_cons, List.map_nil, List.length_cons, List.length_nil, Bool.false_eq_true, ↓reduceIte, Nat.reduceAdd, lc1, iterD, dTru, dIsaR, dIsa, dNot, cEqII, cNeII, cEqSS, cNeSS, cLtII, cLeII, cGtII, cGeII, cLtII', cLeII', bAdd, bSub, ixT0, ixL0, ixT1, ixL1, ixT2, ixL2, ixT3, biLenL, biLenT, Bool.not_true, Bool.not_false, Bool.true_and, Bool.false_and, Bool.and_true, Bool.and_false, ]
    match ds, hs with
    | [], _ => simp only [mAug, miZip, seqOf, inSignR, ninSignR, eqNil, eqNilT, inStrsT, inStrsL, biAll, biAny, true_and, and_true, and_self, Int.reducePow, Int.reduceNeg, Int.reduceToNat, rangeD, List.cons_append, List.nil_append, List.length_append, bAddL, bAddT, bMod, bNeg, biList, biListT, biTup, biTupT, biMax, isnB, isB, mDct0, sizeLine, Nat.reducePow, Nat.reduceLeDiff, cond_true, cond_false, Bool.not_eq_true, Int.cast_ofNat_Int, decide_true, decide_false, Int.reduceEq, Int.reduceLT, Int.reduceLE, Int.reduceSub, Int.reduceAdd, beq_self_eq_true, mSeq, mRet, mVar, mConst, ev1, ev2, mBool, mTru, mIfS, mIf, mSet, mAsg, mPar2, mSortSet, mSetI, mMeth, mBi, mCall, mTup, mLst, mSl, mPart, mAnd, mOr, mNotT, vAnd, vOr, mSkip, mIfs, mChain, mLenSet, mSetL, mFn, mGet2, miVal, miRange, miEnum, lS, lR, gVar, gTupD, gsCons, gsNil, shEnv, shIdx, inner, hideOwn, wipeE, kOf, frOf, fOut, List.getElem?_cons_zero, List.getElem?_cons_succ, List.getElem?_nil, List.set_cons_zero, List.set_cons_succ, List.map_cons, List.map_nil, List.length_cons, List.length_nil, Bool.false_eq_true, ↓reduceIte, Nat.reduceAdd, lc1, iterD, dTru, dIsaR, dIsa, dNot, cEqII, cNeII, cEqSS, cNeSS, cLtII, cLeII, cGtII, cGeII, cLtII', cLeII', bAdd, bSub, ixT0, ixL0, ixT1, ixL1, ixT2, ixL2, ixT3, biLenL, biLenT, Bool.not_true, Bool.not_false, Bool.true_and, Bool.false_and, Bool.and_true, Bool.and_false, ]
    | [a], _ => simp only [mAug, miZip, seqOf, inSignR, ninSignR, eqNil, eqNilT, inStrsT, inStrsL, biAll, biAny, true_and, and_true, and_self, Int.reducePow, Int.reduceNeg, Int.reduceToNat, rangeD, List.cons_append, List.nil_append, List.length_append, bAddL, bAddT, bMod, bNeg, biList, biListT, biTup, biTupT, biMax, isnB, isB, mDct0, sizeLine, Nat.reducePow, Nat.reduceLeDiff, cond_true, cond_false, Bool.not_eq_true, Int.cast_ofNat_Int, decide_true, decide_false, Int.reduceEq, Int.reduceLT, Int.reduceLE, Int.reduceSub, Int.reduceAdd, beq_self_eq_true, mSeq, mRet, mVar, mConst, ev1, ev2, mBool, mTru, mIfS, mIf, mSet, mAsg, mPar2, mSortSet, mSetI, mMeth, mBi, mCall, mTup, mLst, mSl, mPart, mAnd, mOr, mNotT, vAnd, vOr, mSkip, mIfs, mChain, mLenSet, mSetL, mFn, mGet2, miVal, miRange, miEnum, lS, lR, gVar, gTupD, gsCons, gsNil, shEnv, shIdx, inner, hideOwn, wipeE, kOf, frOf, fOut, List.getElem?_cons_zero, List.getElem?_cons_succ, List.getElem?_nil, List.set_cons_zero, List.set_cons_succ, List.map_cons, List.map_nil, List.length_cons, List.length_nil, Bool.false_eq_true, ↓reduceIte, Nat.reduceAdd, lc1, iterD, dTru, dIsaR, dIsa, dNot, cEqII, cNeII, cEqSS, cNeSS, cLtII, cLeII, cGtII, cGeII, cLtII', cLeII', bAdd, bSub, ixT0, ixL0, ixT1, ixL1, ixT2, ixL2, ixT3, biLenL, biLenT, Bool.not_true, Bool.not_false, Bool.true_and, Bool.false_and, Bool.and_true, Bool.and_false, ]
    | [a, b], hs =>
      simp only [mAug, miZip, seqOf, inSignR, ninSignR, eqNil, eqNilT, inStrsT, inStrsL, biAll, biAny, true_and, and_true, and_self, Int.reducePow, Int.reduceNeg, Int.reduceToNat, rangeD, List.cons_append, List.nil_append, List.length_append, bAddL, bAddT, bMod, bNeg, biList, biListT, biTup, biTupT, biMax, isnB, isB, mDct0, sizeLine, Nat.reducePow, Nat.reduceLeDiff, cond_true, cond_false, Bool.not_eq_true, Int.cast_ofNat_Int, decide_true, decide_false, Int.reduceEq, Int.reduceLT, Int.reduceLE, Int.reduceSub, Int.reduceAdd, beq_self_eq_true, mSeq, mRet, mVar, mConst, ev1, ev2, mBool, mTru, mIfS, mIf, mSet, mAsg, mPar2, mSortSet, mSetI, mMeth, mBi, mCall, mTup, mLst, mSl, mPart, mAnd, mOr, mNotT, vAnd, vOr, mSkip, mIfs, mChain, mLenSet, mSetL, mFn, mGet2, miVal, miRange, miEnum, lS, lR, gVar, gTupD, gsCons, gsNil, shEnv, shIdx, inner, hideOwn, wipeE, kOf, frOf, fOut, List.getElem?_cons_zero, List.getElem?_cons_succ, List.getElem?_nil, List.set_cons_zero, List.set_cons_succ, List.map_cons, List.map_nil, List.length_cons, List.length_nil, Bool.false_eq_true, ↓reduceIte, Nat.reduceAdd, lc1, iterD, dTru, dIsaR, dIsa, dNot, cEqII, cNeII, cEqSS, cNeSS, cLtII, cLeII, cGtII, cGeII, cLtII', cLeII', bAdd, bSub, ixT0, ixL0, ixT1, ixL1, ixT2, ixL2, ixT3, biLenL, biLenT, Bool.not_true, Bool.not_false, Bool.true_and, Bool.false_and, Bool.and_true, Bool.and_false, ]
      cases q1 : (w == "is") with
      | true =>
        cases a with
        | str x =>
          simp only [mAug, miZip, seqOf, inSignR, ninSignR, eqNil, eqNilT, inStrsT, inStrsL, biAll, biAny, true_and, and_true, and_self, Int.reducePow, Int.reduceNeg, Int.reduceToNat, rangeD, List.cons_append, List.nil_append, List.length_append, bAddL, bAddT, bMod, bNeg, biList, biListT, biTup, biTupT, biMax, isnB, isB, mDct0, sizeLine, Nat.reducePow, Nat.reduceLeDiff, cond_true, cond_false, Bool.not_eq_true, Int.cast_ofNat_Int, decide_true, decide_false, Int.reduceEq, Int.reduceLT, Int.reduceLE, Int.reduceSub, Int.reduceAdd, beq_self_eq_true, mSeq, mRet, mVar, mConst, ev1, ev2, mBool, mTru, mIfS, mIf, mSet, mAsg, mPar2, mSortSet, mSetI, mMeth, mBi, mCall, mTup, mLst, mSl, mPart, mAnd, mOr, mNotT, vAnd, vOr, mSkip, mIfs, mChain, mLenSet, mSetL, mFn, mGet2, miVal, miRange, miEnum, lS, lR, gVar, gTupD, gsCons, gsNil, shEnv, shIdx, inner, hideOwn, wipeE, kOf, frOf, fOut, List.getElem?_cons_zero, List.getElem?_cons_succ, List.getElem?_nil, List.set_cons_zero, List.set_cons_succ, List.map_cons, List.map_nil, List.length_cons, List.length_nil, Bool.false_eq_true, ↓reduceIte, Nat.reduceAdd, lc1, iterD, dTru, dIsaR, dIsa, dNot, cEqII, cNeII, cEqSS, cNeSS, cLtII, cLeII, cGtII, cGeII, cLtII', cLeII', bAdd, bSub, ixT0, ixL0, ixT1, ixL1, ixT2, ixL2, ixT3, biLenL, biLenT, Bool.not_true, Bool.not_false, Bool.true_and, Bool.false_and, Bool.and_true, Bool.and_false, q1, p_known, known, isA]
          cases q : isKn bs x with
          | false => simp only [mAug, miZip, seqOf, inSignR, ninSignR, eqNil, eqNilT, inStrsT, inStrsL, biAll, biAny, true_and, and_true, and_self, Int.reducePow, Int.reduceNeg, Int.reduceToNat, rangeD, List.cons_append, List.nil_append, List.length_append, bAddL, bAddT, bMod, bNeg, biList, biListT, biTup, biTupT, biMax, isnB, isB, mDct0, sizeLine, Nat.reducePow, Nat.reduceLeDiff, cond_true, cond_false, Bool.not_eq_true, Int.cast_ofNat_Int, decide_true, decide_false, Int.reduceEq, Int.reduceLT, Int.reduceLE, Int.reduceSub, Int.reduceAdd, beq_self_eq_true, mSeq, mRet, mVar, mConst, ev1, ev2, mBool, mTru, mIfS, mIf, mSet, mAsg, mPar2, mSortSet, mSetI, mMeth, mBi, mCall, mTup, mLst, mSl, mPart, mAnd, mOr, mNotT, vAnd, vOr, mSkip, mIfs, mChain, mLenSet, mSetL, mFn, mGet2, miVal, miRange, miEnum, lS, lR, gVar, gTupD, gsCons, gsNil, shEnv, shIdx, inner, hideOwn, wipeE, kOf, frOf, fOut, List.getElem?_cons_zero, List.getElem?_cons_succ, List.getElem?_nil, List.set_cons_zero, List.set_cons_succ, List.map_cons, List.map_nil, List.length_cons, List.length_nil, Bool.false_eq_true, ↓reduceIte, Nat.reduceAdd, lc1, iterD, dTru, dIsaR, dIsa, dNot, cEqII, cNeII, cEqSS, cNeSS, cLtII, cLeII, cGtII, cGeII, cLtII', cLeII', bAdd, bSub, ixT0, ixL0, ixT1, ixL1, ixT2, ixL2, ixT3, biLenL, biLenT, Bool.not_true, Bool.not_false, Bool.true_and, Bool.false_and, Bool.and_true, Bool.and_false, ]
          | true => simp only [mAug, miZip, seqOf, inSignR, ninSignR, eqNil, eqNilT, inStrsT, inStrsL, biAll, biAny, true_and, and_true, and_self, Int.reducePow, Int.reduceNeg, Int.reduceToNat, rangeD, List.cons_append, List.nil_append, List.length_append, bAddL, bAddT, bMod, bNeg, biList, biListT, biTup, biTupT, biMax, isnB, isB, mDct0, sizeLine, Nat.reducePow, Nat.reduceLeDiff, cond_true, cond_false, Bool.not_eq_true, Int.cast_ofNat_Int, decide_true, decide_false, Int.reduceEq, Int.reduceLT, Int.reduceLE, Int.reduceSub, Int.reduceAdd, beq_self_eq_true, mSeq, mRet, mVar, mConst, ev1, ev2, mBool, mTru, mIfS, mIf, mSet, mAsg, mPar2, mSortSet, mSetI, mMeth, mBi, mCall, mTup, mLst, mSl, mPart, mAnd, mOr, mNotT, vAnd, vOr, mSkip, mIfs, mChain, mLenSet, mSetL, mFn, mGet2, miVal, miRange, miEnum, lS, lR, gVar, gTupD, gsCons, gsNil, shEnv, shIdx, inner, hideOwn, wipeE, kOf, frOf, fOut, List.getElem?_cons_zero, List.getElem?_cons_succ, List.getElem?_nil, List.set_cons_zero, List.set_cons_succ, List.map_cons, List.map_nil, List.length_cons, List.length_nil, Bool.false_eq_true, ↓reduceIte, Nat.reduceAdd, lc1, iterD, dTru, dIsaR, dIsa, dNot, cEqII, cNeII, cEqSS, cNeSS, cLtII, cLeII, cGtII, cGeII, cLtII', cLeII', bAdd, bSub, ixT0, ixL0, ixT1, ixL1, ixT2, ixL2, ixT3, biLenL, biLenT, Bool.not_true, Bool.not_false, Bool.true_and, Bool.false_and, Bool.and_true, Bool.and_false, p_size (k + 3) bs x q, p_is_within]
        | _ => simp only [mAug, miZip, seqOf, inSignR, ninSignR, eqNil, eqNilT, inStrsT, inStrsL, biAll, biAny, true_and, and_true, and_self, Int.reducePow, Int.reduceNeg, Int.reduceToNat, rangeD, List.cons_append, List.nil_append, List.length_append, bAddL, bAddT, bMod, bNeg, biList, biListT, biTup, biTupT, biMax, isnB, isB, mDct0, sizeLine, Nat.reducePow, Nat.reduceLeDiff, cond_true, cond_false, Bool.not_eq_true, Int.cast_ofNat_Int, decide_true, decide_false, Int.reduceEq, Int.reduceLT, Int.reduceLE, Int.reduceSub, Int.reduceAdd, beq_self_eq_true, mSeq, mRet, mVar, mConst, ev1, ev2, mBool, mTru, mIfS, mIf, mSet, mAsg, mPar2, mSortSet, mSetI, mMeth, mBi, mCall, mTup, mLst, mSl, mPart, mAnd, mOr, mNotT, vAnd, vOr, mSkip, mIfs, mChain, mLenSet, mSetL, mFn, mGet2, miVal, miRange, miEnum, lS, lR, gVar, gTupD, gsCons, gsNil, shEnv, shIdx, inner, hideOwn, wipeE, kOf, frOf, fOut, List.getElem?_cons_zero, List.getElem?_cons_succ, List.getElem?_nil, List.set_cons_zero, List.set_cons_succ, List.map_cons, List.map_nil, List.length_cons, List.length_nil, Bool.false_eq_true, ↓reduceIte, Nat.reduceAdd, lc1, iterD, dTru, dIsaR, dIsa, dNot, cEqII, cNeII, cEqSS, cNeSS, cLtII, cLeII, cGtII, cGeII, cLtII', cLeII', bAdd, bSub, ixT0, ixL0, ixT1, ixL1, ixT2, ixL2, ixT3, biLenL, biLenT, Bool.not_true, Bool.not_false, Bool.true_and, Bool.false_and, Bool.and_true, Bool.and_false, q1, p_known, known, isA]
      | false =>
        cases q2 : (w == "like") with
        | true =>
          simp only [mAug, miZip, seqOf, inSignR, ninSignR, eqNil, eqNilT, inStrsT, inStrsL, biAll, biAny, true_and, and_true, and_self, Int.reducePow, Int.reduceNeg, Int.reduceToNat, rangeD, List.cons_append, List.nil_append, List.length_append, bAddL, bAddT, bMod, bNeg, biList, biListT, biTup, biTupT, biMax, isnB, isB, mDct0, sizeLine, Nat.reducePow, Nat.reduceLeDiff, cond_true, cond_false, Bool.not_eq_true, Int.cast_ofNat_Int, decide_true, decide_false, Int.reduceEq, Int.reduceLT, Int.reduceLE, Int.reduceSub, Int.reduceAdd, beq_self_eq_true, mSeq, mRet, mVar, mConst, ev1, ev2, mBool, mTru, mIfS, mIf, mSet, mAsg, mPar2, mSortSet, mSetI, mMeth, mBi, mCall, mTup, mLst, mSl, mPart, mAnd, mOr, mNotT, vAnd, vOr, mSkip, mIfs, mChain, mLenSet, mSetL, mFn, mGet2, miVal, miRange, miEnum, lS, lR, gVar, gTupD, gsCons, gsNil, shEnv, shIdx, inner, hideOwn, wipeE, kOf, frOf, fOut, List.getElem?_cons_zero, List.getElem?_cons_succ, List.getElem?_nil, List.set_cons_zero, List.set_cons_succ, List.map_cons, List.map_nil, List.length_cons, List.length_nil, Bool.false_eq_true, ↓reduceIte, Nat.reduceAdd, lc1, iterD, dTru, dIsaR, dIsa, dNot, cEqII, cNeII, cEqSS, cNeSS, cLtII, cLeII, cGtII, cGeII, cLtII', cLeII', bAdd, bSub, ixT0, ixL0, ixT1, ixL1, ixT2, ixL2, ixT3, biLenL, biLenT, Bool.not_true, Bool.not_false, Bool.true_and, Bool.false_and, Bool.and_true, Bool.and_false, q1, q2, p_known]
          cases q : known bs a <;> simp only [mAug, miZip, seqOf, inSignR, ninSignR, eqNil, eqNilT, inStrsT, inStrsL, biAll, biAny, true_and, and_true, and_self, Int.reducePow, Int.reduceNeg, Int.reduceToNat, rangeD, List.cons_append, List.nil_append, List.length_append, bAddL, bAddT, bMod, bNeg, biList, biListT, biTup, biTupT, biMax, isnB, isB, mDct0, sizeLine, Nat.reducePow, Nat.reduceLeDiff, cond_true, cond_false, Bool.not_eq_true, Int.cast_ofNat_Int, decide_true, decide_false, Int.reduceEq, Int.reduceLT, Int.reduceLE, Int.reduceSub, Int.reduceAdd, beq_self_eq_true, mSeq, mRet, mVar, mConst, ev1, ev2, mBool, mTru, mIfS, mIf, mSet, mAsg, mPar2, mSortSet, mSetI, mMeth, mBi, mCall, mTup, mLst, mSl, mPart, mAnd, mOr, mNotT, vAnd, vOr, mSkip, mIfs, mChain, mLenSet, mSetL, mFn, mGet2, miVal, miRange, miEnum, lS, lR, gVar, gTupD, gsCons, gsNil, shEnv, shIdx, inner, hideOwn, wipeE, kOf, frOf, fOut, List.getElem?_cons_zero, List.getElem?_cons_succ, List.getElem?_nil, List.set_cons_zero, List.set_cons_succ, List.map_cons, List.map_nil, List.length_cons, List.length_nil, Bool.false_eq_true, ↓reduceIte, Nat.reduceAdd, lc1, iterD, dTru, dIsaR, dIsa, dNot, cEqII, cNeII, cEqSS, cNeSS, cLtII, cLeII, cGtII, cGeII, cLtII', cLeII', bAdd, bSub, ixT0, ixL0, ixT1, ixL1, ixT2, ixL2, ixT3, biLenL, biLenT, Bool.not_true, Bool.not_false, Bool.true_and, Bool.false_and, Bool.and_true, Bool.and_false, p_known]
        | false =>
          cases q3 : (w == "among") with
          | false => simp only [mAug, miZip, seqOf, inSignR, ninSignR, eqNil, eqNilT, inStrsT, inStrsL, biAll, biAny, true_and, and_true, and_self, Int.reducePow, Int.reduceNeg, Int.reduceToNat, rangeD, List.cons_append, List.nil_append, List.length_append, bAddL, bAddT, bMod, bNeg, biList, biListT, biTup, biTupT, biMax, isnB, isB, mDct0, sizeLine, Nat.reducePow, Nat.reduceLeDiff, cond_true, cond_false, Bool.not_eq_true, Int.cast_ofNat_Int, decide_true, decide_false, Int.reduceEq, Int.reduceLT, Int.reduceLE, Int.reduceSub, Int.reduceAdd, beq_self_eq_true, mSeq, mRet, mVar, mConst, ev1, ev2, mBool, mTru, mIfS, mIf, mSet, mAsg, mPar2, mSortSet, mSetI, mMeth, mBi, mCall, mTup, mLst, mSl, mPart, mAnd, mOr, mNotT, vAnd, vOr, mSkip, mIfs, mChain, mLenSet, mSetL, mFn, mGet2, miVal, miRange, miEnum, lS, lR, gVar, gTupD, gsCons, gsNil, shEnv, shIdx, inner, hideOwn, wipeE, kOf, frOf, fOut, List.getElem?_cons_zero, List.getElem?_cons_succ, List.getElem?_nil, List.set_cons_zero, List.set_cons_succ, List.map_cons, List.map_nil, List.length_cons, List.length_nil, Bool.false_eq_true, ↓reduceIte, Nat.reduceAdd, lc1, iterD, dTru, dIsaR, dIsa, dNot, cEqII, cNeII, cEqSS, cNeSS, cLtII, cLeII, cGtII, cGeII, cLtII', cLeII', bAdd, bSub, ixT0, ixL0, ixT1, ixL1, ixT2, ixL2, ixT3, biLenL, biLenT, Bool.not_true, Bool.not_false, Bool.true_and, Bool.false_and, Bool.and_true, Bool.and_false, q1, q2, q3, cEqSS]
          | true =>
            simp only [mAug, miZip, seqOf, inSignR, ninSignR, eqNil, eqNilT, inStrsT, inStrsL, biAll, biAny, true_and, and_true, and_self, Int.reducePow, Int.reduceNeg, Int.reduceToNat, rangeD, List.cons_append, List.nil_append, List.length_append, bAddL, bAddT, bMod, bNeg, biList, biListT, biTup, biTupT, biMax, isnB, isB, mDct0, sizeLine, Nat.reducePow, Nat.reduceLeDiff, cond_true, cond_false, Bool.not_eq_true, Int.cast_ofNat_Int, decide_true, decide_false, Int.reduceEq, Int.reduceLT, Int.reduceLE, Int.reduceSub, Int.reduceAdd, beq_self_eq_true, mSeq, mRet, mVar, mConst, ev1, ev2, mBool, mTru, mIfS, mIf, mSet, mAsg, mPar2, mSortSet, mSetI, mMeth, mBi, mCall, mTup, mLst, mSl, mPart, mAnd, mOr, mNotT, vAnd, vOr, mSkip, mIfs, mChain, mLenSet, mSetL, mFn, mGet2, miVal, miRange, miEnum, lS, lR, gVar, gTupD, gsCons, gsNil, shEnv, shIdx, inner, hideOwn, wipeE, kOf, frOf, fOut, List.getElem?_cons_zero, List.getElem?_cons_succ, List.getElem?_nil, List.set_cons_zero, List.set_cons_succ, List.map_cons, List.map_nil, List.length_cons, List.length_nil, Bool.false_eq_true, ↓reduceIte, Nat.reduceAdd, lc1, iterD, dTru, dIsaR, dIsa, dNot, cEqII, cNeII, cEqSS, cNeSS, cLtII, cLeII, cGtII, cGeII, cLtII', cLeII', bAdd, bSub, ixT0, ixL0, ixT1, ixL1, ixT2, ixL2, ixT3, biLenL, biLenT, Bool.not_true, Bool.not_false, Bool.true_and, Bool.false_and, Bool.and_true, Bool.and_false, q1, q2, q3, cEqSS, p_are_names (k + 1) bs a (small_few (hs a (by simp)))]
            cases a with
            | tuple as =>
              simp only [mAug, miZip, seqOf, inSignR, ninSignR, eqNil, eqNilT, inStrsT, inStrsL, biAll, biAny, true_and, and_true, and_self, Int.reducePow, Int.reduceNeg, Int.reduceToNat, rangeD, List.cons_append, List.nil_append, List.length_append, bAddL, bAddT, bMod, bNeg, biList, biListT, biTup, biTupT, biMax, isnB, isB, mDct0, sizeLine, Nat.reducePow, Nat.reduceLeDiff, cond_true, cond_false, Bool.not_eq_true, Int.cast_ofNat_Int, decide_true, decide_false, Int.reduceEq, Int.reduceLT, Int.reduceLE, Int.reduceSub, Int.reduceAdd, beq_self_eq_true, mSeq, mRet, mVar, mConst, ev1, ev2, mBool, mTru, mIfS, mIf, mSet, mAsg, mPar2, mSortSet, mSetI, mMeth, mBi, mCall, mTup, mLst, mSl, mPart, mAnd, mOr, mNotT, vAnd, vOr, mSkip, mIfs, mChain, mLenSet, mSetL, mFn, mGet2, miVal, miRange, miEnum, lS, lR, gVar, gTupD, gsCons, gsNil, shEnv, shIdx, inner, hideOwn, wipeE, kOf, frOf, fOut, List.getElem?_cons_zero, List.getElem?_cons_succ, List.getElem?_nil, List.set_cons_zero, List.set_cons_succ, List.map_cons, List.map_nil, List.length_cons, List.length_nil, Bool.false_eq_true, ↓reduceIte, Nat.reduceAdd, lc1, iterD, dTru, dIsaR, dIsa, dNot, cEqII, cNeII, cEqSS, cNeSS, cLtII, cLeII, cGtII, cGeII, cLtII', cLeII', bAdd, bSub, ixT0, ixL0, ixT1, ixL1, ixT2, ixL2, ixT3, biLenL, biLenT, Bool.not_true, Bool.not_false, Bool.true_and, Bool.false_and, Bool.and_true, Bool.and_false, among, q1, q2]
              cases q4 : areNames bs (.tuple as) with
              | false => simp only [mAug, miZip, seqOf, inSignR, ninSignR, eqNil, eqNilT, inStrsT, inStrsL, biAll, biAny, true_and, and_true, and_self, Int.reducePow, Int.reduceNeg, Int.reduceToNat, rangeD, List.cons_append, List.nil_append, List.length_append, bAddL, bAddT, bMod, bNeg, biList, biListT, biTup, biTupT, biMax, isnB, isB, mDct0, sizeLine, Nat.reducePow, Nat.reduceLeDiff, cond_true, cond_false, Bool.not_eq_true, Int.cast_ofNat_Int, decide_true, decide_false, Int.reduceEq, Int.reduceLT, Int.reduceLE, Int.reduceSub, Int.reduceAdd, beq_self_eq_true, mSeq, mRet, mVar, mConst, ev1, ev2, mBool, mTru, mIfS, mIf, mSet, mAsg, mPar2, mSortSet, mSetI, mMeth, mBi, mCall, mTup, mLst, mSl, mPart, mAnd, mOr, mNotT, vAnd, vOr, mSkip, mIfs, mChain, mLenSet, mSetL, mFn, mGet2, miVal, miRange, miEnum, lS, lR, gVar, gTupD, gsCons, gsNil, shEnv, shIdx, inner, hideOwn, wipeE, kOf, frOf, fOut, List.getElem?_cons_zero, List.getElem?_cons_succ, List.getElem?_nil, List.set_cons_zero, List.set_cons_succ, List.map_cons, List.map_nil, List.length_cons, List.length_nil, Bool.false_eq_true, ↓reduceIte, Nat.reduceAdd, lc1, iterD, dTru, dIsaR, dIsa, dNot, cEqII, cNeII, cEqSS, cNeSS, cLtII, cLeII, cGtII, cGeII, cLtII', cLeII', bAdd, bSub, ixT0, ixL0, ixT1, ixL1, ixT2, ixL2, ixT3, biLenL, biLenT, Bool.not_true, Bool.not_false, Bool.true_and, Bool.false_and, Bool.and_true, Bool.and_false, ]
              | true =>
                have q5 := q4
                simp only [areNames, Bool.and_eq_true] at q5
                obtain ⟨ns, rfl, hn⟩ := known_strs q5.2.1
                simp only [mAug, miZip, seqOf, inSignR, ninSignR, eqNil, eqNilT, inStrsT, inStrsL, biAll, biAny, true_and, and_true, and_self, Int.reducePow, Int.reduceNeg, Int.reduceToNat, rangeD, List.cons_append, List.nil_append, List.length_append, bAddL, bAddT, bMod, bNeg, biList, biListT, biTup, biTupT, biMax, isnB, isB, mDct0, sizeLine, Nat.reducePow, Nat.reduceLeDiff, cond_true, cond_false, Bool.not_eq_true, Int.cast_ofNat_Int, decide_true, decide_false, Int.reduceEq, Int.reduceLT, Int.reduceLE, Int.reduceSub, Int.reduceAdd, beq_self_eq_true, mSeq, mRet, mVar, mConst, ev1, ev2, mBool, mTru, mIfS, mIf, mSet, mAsg, mPar2, mSortSet, mSetI, mMeth, mBi, mCall, mTup, mLst, mSl, mPart, mAnd, mOr, mNotT, vAnd, vOr, mSkip, mIfs, mChain, mLenSet, mSetL, mFn, mGet2, miVal, miRange, miEnum, lS, lR, gVar, gTupD, gsCons, gsNil, shEnv, shIdx, inner, hideOwn, wipeE, kOf, frOf, fOut, List.getElem?_cons_zero, List.getElem?_cons_succ, List.getElem?_nil, List.set_cons_zero, List.set_cons_succ, List.map_cons, List.map_nil, List.length_cons, List.length_nil, Bool.false_eq_true, ↓reduceIte, Nat.reduceAdd, lc1, iterD, dTru, dIsaR, dIsa, dNot, cEqII, cNeII, cEqSS, cNeSS, cLtII, cLeII, cGtII, cGeII, cLtII', cLeII', bAdd, bSub, ixT0, ixL0, ixT1, ixL1, ixT2, ixL2, ixT3, biLenL, biLenT, Bool.not_true, Bool.not_false, Bool.true_and, Bool.false_and, Bool.and_true, Bool.and_false, p_are_rows k bs ns hn b, strsD_map]
            | _ => simp only [mAug, miZip, seqOf, inSignR, ninSignR, eqNil, eqNilT, inStrsT, inStrsL, biAll, biAny, true_and, and_true, and_self, Int.reducePow, Int.reduceNeg, Int.reduceToNat, rangeD, List.cons_append, List.nil_append, List.length_append, bAddL, bAddT, bMod, bNeg, biList, biListT, biTup, biTupT, biMax, isnB, isB, mDct0, sizeLine, Nat.reducePow, Nat.reduceLeDiff, cond_true, cond_false, Bool.not_eq_true, Int.cast_ofNat_Int, decide_true, decide_false, Int.reduceEq, Int.reduceLT, Int.reduceLE, Int.reduceSub, Int.reduceAdd, beq_self_eq_true, mSeq, mRet, mVar, mConst, ev1, ev2, mBool, mTru, mIfS, mIf, mSet, mAsg, mPar2, mSortSet, mSetI, mMeth, mBi, mCall, mTup, mLst, mSl, mPart, mAnd, mOr, mNotT, vAnd, vOr, mSkip, mIfs, mChain, mLenSet, mSetL, mFn, mGet2, miVal, miRange, miEnum, lS, lR, gVar, gTupD, gsCons, gsNil, shEnv, shIdx, inner, hideOwn, wipeE, kOf, frOf, fOut, List.getElem?_cons_zero, List.getElem?_cons_succ, List.getElem?_nil, List.set_cons_zero, List.set_cons_succ, List.map_cons, List.map_nil, List.length_cons, List.length_nil, Bool.false_eq_true, ↓reduceIte, Nat.reduceAdd, lc1, iterD, dTru, dIsaR, dIsa, dNot, cEqII, cNeII, cEqSS, cNeSS, cLtII, cLeII, cGtII, cGeII, cLtII', cLeII', bAdd, bSub, ixT0, ixL0, ixT1, ixL1, ixT2, ixL2, ixT3, biLenL, biLenT, Bool.not_true, Bool.not_false, Bool.true_and, Bool.false_and, Bool.and_true, Bool.and_false, among, areNames, q1, q2, q3]
    | a :: b :: c :: ds, _ =>
      have e : ¬ (((ds.length + 1 + 1 + 1 + 1 : Nat) : Int) = 3) := by omega
      simp only [mAug, miZip, seqOf, inSignR, ninSignR, eqNil, eqNilT, inStrsT, inStrsL, biAll, biAny, true_and, and_true, and_self, Int.reducePow, Int.reduceNeg, Int.reduceToNat, rangeD, List.cons_append, List.nil_append, List.length_append, bAddL, bAddT, bMod, bNeg, biList, biListT, biTup, biTupT, biMax, isnB, isB, mDct0, sizeLine, Nat.reducePow, Nat.reduceLeDiff, cond_true, cond_false, Bool.not_eq_true, Int.cast_ofNat_Int, decide_true, decide_false, Int.reduceEq, Int.reduceLT, Int.reduceLE, Int.reduceSub, Int.reduceAdd, beq_self_eq_true, mSeq, mRet, mVar, mConst, ev1, ev2, mBool, mTru, mIfS, mIf, mSet, mAsg, mPar2, mSortSet, mSetI, mMeth, mBi, mCall, mTup, mLst, mSl, mPart, mAnd, mOr, mNotT, vAnd, vOr, mSkip, mIfs, mChain, mLenSet, mSetL, mFn, mGet2, miVal, miRange, miEnum, lS, lR, gVar, gTupD, gsCons, gsNil, shEnv, shIdx, inner, hideOwn, wipeE, kOf, frOf, fOut, List.getElem?_cons_zero, List.getElem?_cons_succ, List.getElem?_nil, List.set_cons_zero, List.set_cons_succ, List.map_cons, List.map_nil, List.length_cons, List.length_nil, Bool.false_eq_true, ↓reduceIte, Nat.reduceAdd, lc1, iterD, dTru, dIsaR, dIsa, dNot, cEqII, cNeII, cEqSS, cNeSS, cLtII, cLeII, cGtII, cGeII, cLtII', cLeII', bAdd, bSub, ixT0, ixL0, ixT1, ixL1, ixT2, ixL2, ixT3, biLenL, biLenT, Bool.not_true, Bool.not_false, Bool.true_and, Bool.false_and, Bool.and_true, Bool.and_false, e]
def cond (bs : List Bx) : Nat → D → Bool
  | 0, _ => false
  | n + 1, .tuple (.str w :: ds) => bif w == "not" then (match ds with
      | [x] => cond bs n x
      | _ => false)
    else bif (w == "and") || (w == "or") then (match ds with
      | [.tuple ps] => (decide (1 ≤ ps.length) && decide (ps.length ≤ 8)) && ps.all (cond bs n)
      | _ => false)
    else leaf bs w ds
  | _, _ => false
theorem ninAO (w : Str) : dCmpR .NotIn (.str w) (.tuple [.str "and", .str "or"]) = some (.bool (!((w == "and") || (w == "or"))), false) := by
  have h := ninStrsT w ["and", "or"]
  simp only [List.map_cons, List.map_nil] at h
  rw [h]
  have e : ∀ x : Str, (x == w) = (w == x) := fun x => by
    cases q : (w == x) with
    | true => rw [eq_of_beq q]; exact beq_self_eq_true _
    | false =>
      cases q2 : (x == w) with
      | false => rfl
      | true => rw [eq_of_beq q2, beq_self_eq_true] at q; cases q
  simp [e]
theorem fl0 (a b c : D) : HC.fill [.pos 0, .pos 1, .kw 0] [a, b] [] [c] = [a, b, c] := rfl
theorem fl1 (a b c : D) : HC.fill [.pos 0, .pos 1, .dfl 0] [a, b] [c] [] = [a, b, c] := rfl
theorem p_cond (k : Nat) (bs : List Bx) : ∀ (n : Nat) (d : D), small d = true → CF (k + n + 6) "is_condition" [.list (bs.map Bx.d), d, .int (n : Nat)] = some (.bool (cond bs n d), false)
  | 0, d, _ => by
    rw [c_is_condition]
    unfold b_is_condition
    simp only [mAug, miZip, seqOf, inSignR, ninSignR, eqNil, eqNilT, inStrsT, inStrsL, biAll, biAny, true_and, and_true, and_self, Int.reducePow, Int.reduceNeg, Int.reduceToNat, rangeD, List.cons_append, List.nil_append, List.length_append, bAddL, bAddT, bMod, bNeg, biList, biListT, biTup, biTupT, biMax, isnB, isB, mDct0, sizeLine, Nat.reducePow, Nat.reduceLeDiff, cond_true, cond_false, Bool.not_eq_true, Int.cast_ofNat_Int, decide_true, decide_false, Int.reduceEq, Int.reduceLT, Int.reduceLE, Int.reduceSub, Int.reduceAdd, beq_self_eq_true, mSeq, mRet, mVar, mConst, ev1, ev2, mBool, mTru, mIfS, mIf, mSet, mAsg, mPar2, mSortSet, mSetI, mMeth, mBi, mCall, mTup, mLst, mSl, mPart, mAnd, mOr, mNotT, vAnd, vOr, mSkip, mIfs, mChain, mLenSet, mSetL, mFn, mGet2, miVal, miRange, miEnum, lS, lR, gVar, gTupD, gsCons, gsNil, shEnv, shIdx, inner, hideOwn, wipeE, kOf, frOf, fOut, List.getElem?_cons_zero, List.getElem?_cons_succ, List.getElem?_nil, List.set_cons_zero, List.set_cons_succ, List.map_cons, List.map_nil, List.length_cons, List.length_nil, Bool.false_eq_true, ↓reduceIte, Nat.reduceAdd, lc1, iterD, dTru, dIsaR, dIsa, dNot, cEqII, cNeII, cEqSS, cNeSS, cLtII, cLeII, cGtII, cGeII, cLtII', cLeII', bAdd, bSub, ixT0, ixL0, ixT1, ixL1, ixT2, ixL2, ixT3, biLenL, biLenT, Bool.not_true, Bool.not_false, Bool.true_and, Bool.false_and, Bool.and_true, Bool.and_false, cond]
  | n + 1, d, hs => by
    have hn : ¬ (((n + 1 : Nat) : Int) < 1) := by omega
    have hm : (((n + 1 : Nat) : Int) - 1) = (n : Nat) := by omega
    rw [c_is_condition]
    unfold b_is_condition
    cases d with
    | tuple ds =>
      cases ds with
      | nil => simp only [mAug, miZip, seqOf, inSignR, ninSignR, eqNil, eqNilT, inStrsT, inStrsL, biAll, biAny, true_and, and_true, and_self, Int.reducePow, Int.reduceNeg, Int.reduceToNat, rangeD, List.cons_append, List.nil_append, List.length_append, bAddL, bAddT, bMod, bNeg, biList, biListT, biTup, biTupT, biMax, isnB, isB, mDct0, sizeLine, Nat.reducePow, Nat.reduceLeDiff, cond_true, cond_false, Bool.not_eq_true, Int.cast_ofNat_Int, decide_true, decide_false, Int.reduceEq, Int.reduceLT, Int.reduceLE, Int.reduceSub, Int.reduceAdd, beq_self_eq_true, mSeq, mRet, mVar, mConst, ev1, ev2, mBool, mTru, mIfS, mIf, mSet, mAsg, mPar2, mSortSet, mSetI, mMeth, mBi, mCall, mTup, mLst, mSl, mPart, mAnd, mOr, mNotT, vAnd, vOr, mSkip, mIfs, mChain, mLenSet, mSetL, mFn, mGet2, miVal, miRange, miEnum, lS, lR, gVar, gTupD, gsCons, gsNil, shEnv, shIdx, inner, hideOwn, wipeE, kOf, frOf, fOut, List.getElem?_cons_zero, List.getElem?_cons_succ, List.getElem?_nil, List.set_cons_zero, List.set_cons_succ, List.map_cons, List.map_nil, List.length_cons, List.length_nil, Bool.false_eq_true, ↓reduceIte, Nat.reduceAdd, lc1, iterD, dTru, dIsaR, dIsa, dNot, cEqII, cNeII, cEqSS, cNeSS, cLtII, cLeII, cGtII, cGeII, cLtII', cLeII', bAdd, bSub, ixT0, ixL0, ixT1, ixL1, ixT2, ixL2, ixT3, biLenL, biLenT, Bool.not_true, Bool.not_false, Bool.true_and, Bool.false_and, Bool.and_true, Bool.and_false, hn, eqNilT, List.isEmpty_nil, cond]
      | cons w ds =>
        cases w with
        | str w =>
          have hds : ∀ d ∈ ds, small d = true := fun d hd => small_tup hs d (List.mem_cons_of_mem _ hd)
          cases q0 : (w == "not") with
          | true =>
            simp only [mAug, miZip, seqOf, inSignR, ninSignR, eqNil, eqNilT, inStrsT, inStrsL, biAll, biAny, true_and, and_true, and_self, Int.reducePow, Int.reduceNeg, Int.reduceToNat, rangeD, List.cons_append, List.nil_append, List.length_append, bAddL, bAddT, bMod, bNeg, biList, biListT, biTup, biTupT, biMax, isnB, isB, mDct0, sizeLine, Nat.reducePow, Nat.reduceLeDiff, cond_true, cond_false, Bool.not_eq_true, Int.cast_ofNat_Int, decide_true, decide_false, Int.reduceEq, Int.reduceLT, Int.reduceLE, Int.reduceSub, Int.reduceAdd, beq_self_eq_true, mSeq, mRet, mVar, mConst, ev1, ev2, mBool, mTru, mIfS, mIf, mSet, mAsg, mPar2, mSortSet, mSetI, mMeth, mBi, mCall, mTup, mLst, mSl, mPart, mAnd, mOr, mNotT, vAnd, vOr, mSkip, mIfs, mChain, mLenSet, mSetL, mFn, mGet2, miVal, miRange, miEnum, lS, lR, gVar, gTupD, gsCons, gsNil, shEnv, shIdx, inner, hideOwn, wipeE, kOf, frOf, fOut, List.getElem?_cons_zero, List.getElem?_cons_succ, List.getElem?_nil, List.set_cons_zero, List.set_cons_succ, List.map_cons, List.map_nil, List.length_cons, List.length_nil, Bool.false_eq_true, ↓reduceIte, Nat.reduceAdd, lc1, iterD, dTru, dIsaR, dIsa, dNot, cEqII, cNeII, cEqSS, cNeSS, cLtII, cLeII, cGtII, cGeII, cLtII', cLeII', bAdd, bSub, ixT0, ixL0, ixT1, ixL1, ixT2, ixL2, ixT3, biLenL, biLenT, Bool.not_true, Bool.not_false, Bool.true_and, Bool.false_and, Bool.and_true, Bool.and_false, hn, eqNilT, List.isEmpty_cons, cEqSS, q0, cond]
            match ds, hds with
            | [], _ => simp only [mAug, miZip, seqOf, inSignR, ninSignR, eqNil, eqNilT, inStrsT, inStrsL, biAll, biAny, true_and, and_true, and_self, Int.reducePow, Int.reduceNeg, Int.reduceToNat, rangeD, List.cons_append, List.nil_append, List.length_append, bAddL, bAddT, bMod, bNeg, biList, biListT, biTup, biTupT, biMax, isnB, isB, mDct0, sizeLine, Nat.reducePow, Nat.reduceLeDiff, cond_true, cond_false, Bool.not_eq_true, Int.cast_ofNat_Int, decide_true, decide_false, Int.reduceEq, Int.reduceLT, Int.reduceLE, Int.reduceSub, Int.reduceAdd, beq_self_eq_true, mSeq, mRet, mVar, mConst, ev1, ev2, mBool, mTru, mIfS, mIf, mSet, mAsg, mPar2, mSortSet, mSetI, mMeth, mBi, mCall, mTup, mLst, mSl, mPart, mAnd, mOr, mNotT, vAnd, vOr, mSkip, mIfs, mChain, mLenSet, mSetL, mFn, mGet2, miVal, miRange, miEnum, lS, lR, gVar, gTupD, gsCons, gsNil, shEnv, shIdx, inner, hideOwn, wipeE, kOf, frOf, fOut, List.getElem?_cons_zero, List.getElem?_cons_succ, List.getElem?_nil, List.set_cons_zero, List.set_cons_succ, List.map_cons, List.map_nil, List.length_cons, List.length_nil, Bool.false_eq_true, ↓reduceIte, Nat.reduceAdd, lc1, iterD, dTru, dIsaR, dIsa, dNot, cEqII, cNeII, cEqSS, cNeSS, cLtII, cLeII, cGtII, cGeII, cLtII', cLeII', bAdd, bSub, ixT0, ixL0, ixT1, ixL1, ixT2, ixL2, ixT3, biLenL, biLenT, Bool.not_true, Bool.not_false, Bool.true_and, Bool.false_and, Bool.and_true, Bool.and_false, ]
            | [x], hds =>
              have ih := p_cond k bs n x (hds x (by simp))
              rw [show k + n + 6 = k + (n + 1) + 5 by omega] at ih
              simp only [mAug, miZip, seqOf, inSignR, ninSignR, eqNil, eqNilT, inStrsT, inStrsL, biAll, biAny, true_and, and_true, and_self, Int.reducePow, Int.reduceNeg, Int.reduceToNat, rangeD, List.cons_append, List.nil_append, List.length_append, bAddL, bAddT, bMod, bNeg, biList, biListT, biTup, biTupT, biMax, isnB, isB, mDct0, sizeLine, Nat.reducePow, Nat.reduceLeDiff, cond_true, cond_false, Bool.not_eq_true, Int.cast_ofNat_Int, decide_true, decide_false, Int.reduceEq, Int.reduceLT, Int.reduceLE, Int.reduceSub, Int.reduceAdd, beq_self_eq_true, mSeq, mRet, mVar, mConst, ev1, ev2, mBool, mTru, mIfS, mIf, mSet, mAsg, mPar2, mSortSet, mSetI, mMeth, mBi, mCall, mTup, mLst, mSl, mPart, mAnd, mOr, mNotT, vAnd, vOr, mSkip, mIfs, mChain, mLenSet, mSetL, mFn, mGet2, miVal, miRange, miEnum, lS, lR, gVar, gTupD, gsCons, gsNil, shEnv, shIdx, inner, hideOwn, wipeE, kOf, frOf, fOut, List.getElem?_cons_zero, List.getElem?_cons_succ, List.getElem?_nil, List.set_cons_zero, List.set_cons_succ, List.map_cons, List.map_nil, List.length_cons, List.length_nil, Bool.false_eq_true, ↓reduceIte, Nat.reduceAdd, lc1, iterD, dTru, dIsaR, dIsa, dNot, cEqII, cNeII, cEqSS, cNeSS, cLtII, cLeII, cGtII, cGeII, cLtII', cLeII', bAdd, bSub, ixT0, ixL0, ixT1, ixL1, ixT2, ixL2, ixT3, biLenL, biLenT, Bool.not_true, Bool.not_false, Bool.true_and, Bool.false_and, Bool.and_true, Bool.and_false, hm, mCallS, HC.Shape.put, fl0, ih]
            | x :: y :: ds, _ =>
              have e : ¬ (((ds.length + 1 + 1 + 1 : Nat) : Int) = 2) := by omega
              simp only [mAug, miZip, seqOf, inSignR, ninSignR, eqNil, eqNilT, inStrsT, inStrsL, biAll, biAny, true_and, and_true, and_self, Int.reducePow, Int.reduceNeg, Int.reduceToNat, rangeD, List.cons_append, List.nil_append, List.length_append, bAddL, bAddT, bMod, bNeg, biList, biListT, biTup, biTupT, biMax, isnB, isB, mDct0, sizeLine, Nat.reducePow, Nat.reduceLeDiff, cond_true, cond_false, Bool.not_eq_true, Int.cast_ofNat_Int, decide_true, decide_false, Int.reduceEq, Int.reduceLT, Int.reduceLE, Int.reduceSub, Int.reduceAdd, beq_self_eq_true, mSeq, mRet, mVar, mConst, ev1, ev2, mBool, mTru, mIfS, mIf, mSet, mAsg, mPar2, mSortSet, mSetI, mMeth, mBi, mCall, mTup, mLst, mSl, mPart, mAnd, mOr, mNotT, vAnd, vOr, mSkip, mIfs, mChain, mLenSet, mSetL, mFn, mGet2, miVal, miRange, miEnum, lS, lR, gVar, gTupD, gsCons, gsNil, shEnv, shIdx, inner, hideOwn, wipeE, kOf, frOf, fOut, List.getElem?_cons_zero, List.getElem?_cons_succ, List.getElem?_nil, List.set_cons_zero, List.set_cons_succ, List.map_cons, List.map_nil, List.length_cons, List.length_nil, Bool.false_eq_true, ↓reduceIte, Nat.reduceAdd, lc1, iterD, dTru, dIsaR, dIsa, dNot, cEqII, cNeII, cEqSS, cNeSS, cLtII, cLeII, cGtII, cGeII, cLtII', cLeII', bAdd, bSub, ixT0, ixL0, ixT1, ixL1, ixT2, ixL2, ixT3, biLenL, biLenT, Bool.not_true, Bool.not_false, Bool.true_and, Bool.false_and, Bool.and_true, Bool.and_false, e]
          | false =>
            cases q1 : ((w == "and") || (w == "or")) with
            | false =>
              simp only [mAug, miZip, seqOf, inSignR, ninSignR, eqNil, eqNilT, inStrsT, inStrsL, biAll, biAny, true_and, and_true, and_self, Int.reducePow, Int.reduceNeg, Int.reduceToNat, rangeD, List.cons_append, List.nil_append, List.length_append, bAddL, bAddT, bMod, bNeg, biList, biListT, biTup, biTupT, biMax, isnB, isB, mDct0, sizeLine, Nat.reducePow, Nat.reduceLeDiff, cond_true, cond_false, Bool.not_eq_true, Int.cast_ofNat_Int, decide_true, decide_false, Int.reduceEq, Int.reduceLT, Int.reduceLE, Int.reduceSub, Int.reduceAdd, beq_self_eq_true, mSeq, mRet, mVar, mConst, ev1, ev2, mBool, mTru, mIfS, mIf, mSet, mAsg, mPar2, mSortSet, mSetI, mMeth, mBi, mCall, mTup, mLst, mSl, mPart, mAnd, mOr, mNotT, vAnd, vOr, mSkip, mIfs, mChain, mLenSet, mSetL, mFn, mGet2, miVal, miRange, miEnum, lS, lR, gVar, gTupD, gsCons, gsNil, shEnv, shIdx, inner, hideOwn, wipeE, kOf, frOf, fOut, List.getElem?_cons_zero, List.getElem?_cons_succ, List.getElem?_nil, List.set_cons_zero, List.set_cons_succ, List.map_cons, List.map_nil, List.length_cons, List.length_nil, Bool.false_eq_true, ↓reduceIte, Nat.reduceAdd, lc1, iterD, dTru, dIsaR, dIsa, dNot, cEqII, cNeII, cEqSS, cNeSS, cLtII, cLeII, cGtII, cGeII, cLtII', cLeII', bAdd, bSub, ixT0, ixL0, ixT1, ixL1, ixT2, ixL2, ixT3, biLenL, biLenT, Bool.not_true, Bool.not_false, Bool.true_and, Bool.false_and, Bool.and_true, Bool.and_false, hn, eqNilT, List.isEmpty_cons, cEqSS, q0, q1, ninAO, cond, p_leaf (k + (n + 1)) bs w ds hds]
            | true =>
              simp only [mAug, miZip, seqOf, inSignR, ninSignR, eqNil, eqNilT, inStrsT, inStrsL, biAll, biAny, true_and, and_true, and_self, Int.reducePow, Int.reduceNeg, Int.reduceToNat, rangeD, List.cons_append, List.nil_append, List.length_append, bAddL, bAddT, bMod, bNeg, biList, biListT, biTup, biTupT, biMax, isnB, isB, mDct0, sizeLine, Nat.reducePow, Nat.reduceLeDiff, cond_true, cond_false, Bool.not_eq_true, Int.cast_ofNat_Int, decide_true, decide_false, Int.reduceEq, Int.reduceLT, Int.reduceLE, Int.reduceSub, Int.reduceAdd, beq_self_eq_true, mSeq, mRet, mVar, mConst, ev1, ev2, mBool, mTru, mIfS, mIf, mSet, mAsg, mPar2, mSortSet, mSetI, mMeth, mBi, mCall, mTup, mLst, mSl, mPart, mAnd, mOr, mNotT, vAnd, vOr, mSkip, mIfs, mChain, mLenSet, mSetL, mFn, mGet2, miVal, miRange, miEnum, lS, lR, gVar, gTupD, gsCons, gsNil, shEnv, shIdx, inner, hideOwn, wipeE, kOf, frOf, fOut, List.getElem?_cons_zero, List.getElem?_cons_succ, List.getElem?_nil, List.set_cons_zero, List.set_cons_succ, List.map_cons, List.map_nil, List.length_cons, List.length_nil, Bool.false_eq_true, ↓reduceIte, Nat.reduceAdd, lc1, iterD, dTru, dIsaR, dIsa, dNot, cEqII, cNeII, cEqSS, cNeSS, cLtII, cLeII, cGtII, cGeII, cLtII', cLeII', bAdd, bSub, ixT0, ixL0, ixT1, ixL1, ixT2, ixL2, ixT3, biLenL, biLenT, Bool.not_true, Bool.not_false, Bool.true_and, Bool.false_and, Bool.and_true, Bool.and_false, hn, eqNilT, List.isEmpty_cons, cEqSS, q0, q1, ninAO, cond]
              match ds, hds with
              | [], _ => simp only [mAug, miZip, seqOf, inSignR, ninSignR, eqNil, eqNilT, inStrsT, inStrsL, biAll, biAny, true_and, and_true, and_self, Int.reducePow, Int.reduceNeg, Int.reduceToNat, rangeD, List.cons_append, List.nil_append, List.length_append, bAddL, bAddT, bMod, bNeg, biList, biListT, biTup, biTupT, biMax, isnB, isB, mDct0, sizeLine, Nat.reducePow, Nat.reduceLeDiff, cond_true, cond_false, Bool.not_eq_true, Int.cast_ofNat_Int, decide_true, decide_false, Int.reduceEq, Int.reduceLT, Int.reduceLE, Int.reduceSub, Int.reduceAdd, beq_self_eq_true, mSeq, mRet, mVar, mConst, ev1, ev2, mBool, mTru, mIfS, mIf, mSet, mAsg, mPar2, mSortSet, mSetI, mMeth, mBi, mCall, mTup, mLst, mSl, mPart, mAnd, mOr, mNotT, vAnd, vOr, mSkip, mIfs, mChain, mLenSet, mSetL, mFn, mGet2, miVal, miRange, miEnum, lS, lR, gVar, gTupD, gsCons, gsNil, shEnv, shIdx, inner, hideOwn, wipeE, kOf, frOf, fOut, List.getElem?_cons_zero, List.getElem?_cons_succ, List.getElem?_nil, List.set_cons_zero, List.set_cons_succ, List.map_cons, List.map_nil, List.length_cons, List.length_nil, Bool.false_eq_true, ↓reduceIte, Nat.reduceAdd, lc1, iterD, dTru, dIsaR, dIsa, dNot, cEqII, cNeII, cEqSS, cNeSS, cLtII, cLeII, cGtII, cGeII, cLtII', cLeII', bAdd, bSub, ixT0, ixL0, ixT1, ixL1, ixT2, ixL2, ixT3, biLenL, biLenT, Bool.not_true, Bool.not_false, Bool.true_and, Bool.false_and, Bool.and_true, Bool.and_false, ]
              | [x], hds =>
                have hx := hds x (by simp)
                cases x with
                | tuple ps =>
                  have hps := small_tup hx
                  by_cases g1 : 1 ≤ ps.length
                  · have g1' : (1 : Int) ≤ (ps.length : Nat) := by omega
                    by_cases g2 : ps.length ≤ 8
                    · have g2' : ((ps.length : Nat) : Int) ≤ 8 := by omega
                      simp only [mAug, miZip, seqOf, inSignR, ninSignR, eqNil, eqNilT, inStrsT, inStrsL, biAll, biAny, true_and, and_true, and_self, Int.reducePow, Int.reduceNeg, Int.reduceToNat, rangeD, List.cons_append, List.nil_append, List.length_append, bAddL, bAddT, bMod, bNeg, biList, biListT, biTup, biTupT, biMax, isnB, isB, mDct0, sizeLine, Nat.reducePow, Nat.reduceLeDiff, cond_true, cond_false, Bool.not_eq_true, Int.cast_ofNat_Int, decide_true, decide_false, Int.reduceEq, Int.reduceLT, Int.reduceLE, Int.reduceSub, Int.reduceAdd, beq_self_eq_true, mSeq, mRet, mVar, mConst, ev1, ev2, mBool, mTru, mIfS, mIf, mSet, mAsg, mPar2, mSortSet, mSetI, mMeth, mBi, mCall, mTup, mLst, mSl, mPart, mAnd, mOr, mNotT, vAnd, vOr, mSkip, mIfs, mChain, mLenSet, mSetL, mFn, mGet2, miVal, miRange, miEnum, lS, lR, gVar, gTupD, gsCons, gsNil, shEnv, shIdx, inner, hideOwn, wipeE, kOf, frOf, fOut, List.getElem?_cons_zero, List.getElem?_cons_succ, List.getElem?_nil, List.set_cons_zero, List.set_cons_succ, List.map_cons, List.map_nil, List.length_cons, List.length_nil, Bool.false_eq_true, ↓reduceIte, Nat.reduceAdd, lc1, iterD, dTru, dIsaR, dIsa, dNot, cEqII, cNeII, cEqSS, cNeSS, cLtII, cLeII, cGtII, cGeII, cLtII', cLeII', bAdd, bSub, ixT0, ixL0, ixT1, ixL1, ixT2, ixL2, ixT3, biLenL, biLenT, Bool.not_true, Bool.not_false, Bool.true_and, Bool.false_and, Bool.and_true, Bool.and_false, g1, g1', g2, g2', mLc]
                      rw [lcMapD (fun d => .bool (cond bs n d)) (fun d hd => by
                        have ih := p_cond k bs n d (hps d hd)
                        rw [show k + n + 6 = k + (n + 1) + 5 by omega] at ih
                        simp only [mAug, miZip, seqOf, inSignR, ninSignR, eqNil, eqNilT, inStrsT, inStrsL, biAll, biAny, true_and, and_true, and_self, Int.reducePow, Int.reduceNeg, Int.reduceToNat, rangeD, List.cons_append, List.nil_append, List.length_append, bAddL, bAddT, bMod, bNeg, biList, biListT, biTup, biTupT, biMax, isnB, isB, mDct0, sizeLine, Nat.reducePow, Nat.reduceLeDiff, cond_true, cond_false, Bool.not_eq_true, Int.cast_ofNat_Int, decide_true, decide_false, Int.reduceEq, Int.reduceLT, Int.reduceLE, Int.reduceSub, Int.reduceAdd, beq_self_eq_true, mSeq, mRet, mVar, mConst, ev1, ev2, mBool, mTru, mIfS, mIf, mSet, mAsg, mPar2, mSortSet, mSetI, mMeth, mBi, mCall, mTup, mLst, mSl, mPart, mAnd, mOr, mNotT, vAnd, vOr, mSkip, mIfs, mChain, mLenSet, mSetL, mFn, mGet2, miVal, miRange, miEnum, lS, lR, gVar, gTupD, gsCons, gsNil, shEnv, shIdx, inner, hideOwn, wipeE, kOf, frOf, fOut, List.getElem?_cons_zero, List.getElem?_cons_succ, List.getElem?_nil, List.set_cons_zero, List.set_cons_succ, List.map_cons, List.map_nil, List.length_cons, List.length_nil, Bool.false_eq_true, ↓reduceIte, Nat.reduceAdd, lc1, iterD, dTru, dIsaR, dIsa, dNot, cEqII, cNeII, cEqSS, cNeSS, cLtII, cLeII, cGtII, cGeII, cLtII', cLeII', bAdd, bSub, ixT0, ixL0, ixT1, ixL1, ixT2, ixL2, ixT3, biLenL, biLenT, Bool.not_true, Bool.not_false, Bool.true_and, Bool.false_and, Bool.and_true, Bool.and_false, hm, mCallS, HC.Shape.put, fl0, ih])]
                      simp only [mAug, miZip, seqOf, inSignR, ninSignR, eqNil, eqNilT, inStrsT, inStrsL, biAll, biAny, true_and, and_true, and_self, Int.reducePow, Int.reduceNeg, Int.reduceToNat, rangeD, List.cons_append, List.nil_append, List.length_append, bAddL, bAddT, bMod, bNeg, biList, biListT, biTup, biTupT, biMax, isnB, isB, mDct0, sizeLine, Nat.reducePow, Nat.reduceLeDiff, cond_true, cond_false, Bool.not_eq_true, Int.cast_ofNat_Int, decide_true, decide_false, Int.reduceEq, Int.reduceLT, Int.reduceLE, Int.reduceSub, Int.reduceAdd, beq_self_eq_true, mSeq, mRet, mVar, mConst, ev1, ev2, mBool, mTru, mIfS, mIf, mSet, mAsg, mPar2, mSortSet, mSetI, mMeth, mBi, mCall, mTup, mLst, mSl, mPart, mAnd, mOr, mNotT, vAnd, vOr, mSkip, mIfs, mChain, mLenSet, mSetL, mFn, mGet2, miVal, miRange, miEnum, lS, lR, gVar, gTupD, gsCons, gsNil, shEnv, shIdx, inner, hideOwn, wipeE, kOf, frOf, fOut, List.getElem?_cons_zero, List.getElem?_cons_succ, List.getElem?_nil, List.set_cons_zero, List.set_cons_succ, List.map_cons, List.map_nil, List.length_cons, List.length_nil, Bool.false_eq_true, ↓reduceIte, Nat.reduceAdd, lc1, iterD, dTru, dIsaR, dIsa, dNot, cEqII, cNeII, cEqSS, cNeSS, cLtII, cLeII, cGtII, cGeII, cLtII', cLeII', bAdd, bSub, ixT0, ixL0, ixT1, ixL1, ixT2, ixL2, ixT3, biLenL, biLenT, Bool.not_true, Bool.not_false, Bool.true_and, Bool.false_and, Bool.and_true, Bool.and_false, biAll]
                    · have g2' : ¬ ((ps.length : Nat) : Int) ≤ 8 := by omega
                      simp only [mAug, miZip, seqOf, inSignR, ninSignR, eqNil, eqNilT, inStrsT, inStrsL, biAll, biAny, true_and, and_true, and_self, Int.reducePow, Int.reduceNeg, Int.reduceToNat, rangeD, List.cons_append, List.nil_append, List.length_append, bAddL, bAddT, bMod, bNeg, biList, biListT, biTup, biTupT, biMax, isnB, isB, mDct0, sizeLine, Nat.reducePow, Nat.reduceLeDiff, cond_true, cond_false, Bool.not_eq_true, Int.cast_ofNat_Int, decide_true, decide_false, Int.reduceEq, Int.reduceLT, Int.reduceLE, Int.reduceSub, Int.reduceAdd, beq_self_eq_true, mSeq, mRet, mVar, mConst, ev1, ev2, mBool, mTru, mIfS, mIf, mSet, mAsg, mPar2, mSortSet, mSetI, mMeth, mBi, mCall, mTup, mLst, mSl, mPart, mAnd, mOr, mNotT, vAnd, vOr, mSkip, mIfs, mChain, mLenSet, mSetL, mFn, mGet2, miVal, miRange, miEnum, lS, lR, gVar, gTupD, gsCons, gsNil, shEnv, shIdx, inner, hideOwn, wipeE, kOf, frOf, fOut, List.getElem?_cons_zero, List.getElem?_cons_succ, List.getElem?_nil, List.set_cons_zero, List.set_cons_succ, List.map_cons, List.map_nil, List.length_cons, List.length_nil, Bool.false_eq_true, ↓reduceIte, Nat.reduceAdd, lc1, iterD, dTru, dIsaR, dIsa, dNot, cEqII, cNeII, cEqSS, cNeSS, cLtII, cLeII, cGtII, cGeII, cLtII', cLeII', bAdd, bSub, ixT0, ixL0, ixT1, ixL1, ixT2, ixL2, ixT3, biLenL, biLenT, Bool.not_true, Bool.not_false, Bool.true_and, Bool.false_and, Bool.and_true, Bool.and_false, g1, g1', g2, g2']
                  · have g1' : ¬ (1 : Int) ≤ (ps.length : Nat) := by omega
                    simp only [mAug, miZip, seqOf, inSignR, ninSignR, eqNil, eqNilT, inStrsT, inStrsL, biAll, biAny, true_and, and_true, and_self, Int.reducePow, Int.reduceNeg, Int.reduceToNat, rangeD, List.cons_append, List.nil_append, List.length_append, bAddL, bAddT, bMod, bNeg, biList, biListT, biTup, biTupT, biMax, isnB, isB, mDct0, sizeLine, Nat.reducePow, Nat.reduceLeDiff, cond_true, cond_false, Bool.not_eq_true, Int.cast_ofNat_Int, decide_true, decide_false, Int.reduceEq, Int.reduceLT, Int.reduceLE, Int.reduceSub, Int.reduceAdd, beq_self_eq_true, mSeq, mRet, mVar, mConst, ev1, ev2, mBool, mTru, mIfS, mIf, mSet, mAsg, mPar2, mSortSet, mSetI, mMeth, mBi, mCall, mTup, mLst, mSl, mPart, mAnd, mOr, mNotT, vAnd, vOr, mSkip, mIfs, mChain, mLenSet, mSetL, mFn, mGet2, miVal, miRange, miEnum, lS, lR, gVar, gTupD, gsCons, gsNil, shEnv, shIdx, inner, hideOwn, wipeE, kOf, frOf, fOut, List.getElem?_cons_zero, List.getElem?_cons_succ, List.getElem?_nil, List.set_cons_zero, List.set_cons_succ, List.map_cons, List.map_nil, List.length_cons, List.length_nil, Bool.false_eq_true, ↓reduceIte, Nat.reduceAdd, lc1, iterD, dTru, dIsaR, dIsa, dNot, cEqII, cNeII, cEqSS, cNeSS, cLtII, cLeII, cGtII, cGeII, cLtII', cLeII', bAdd, bSub, ixT0, ixL0, ixT1, ixL1, ixT2, ixL2, ixT3, biLenL, biLenT, Bool.not_true, Bool.not_false, Bool.true_and, Bool.false_and, Bool.and_true, Bool.and_false, g1, g1']
                | _ => simp only [mAug, miZip, seqOf, inSignR, ninSignR, eqNil, eqNilT, inStrsT, inStrsL, biAll, biAny, true_and, and_true, and_self, Int.reducePow, Int.reduceNeg, Int.reduceToNat, rangeD, List.cons_append, List.nil_append, List.length_append, bAddL, bAddT, bMod, bNeg, biList, biListT, biTup, biTupT, biMax, isnB, isB, mDct0, sizeLine, Nat.reducePow, Nat.reduceLeDiff, cond_true, cond_false, Bool.not_eq_true, Int.cast_ofNat_Int, decide_true, decide_false, Int.reduceEq, Int.reduceLT, Int.reduceLE, Int.reduceSub, Int.reduceAdd, beq_self_eq_true, mSeq, mRet, mVar, mConst, ev1, ev2, mBool, mTru, mIfS, mIf, mSet, mAsg, mPar2, mSortSet, mSetI, mMeth, mBi, mCall, mTup, mLst, mSl, mPart, mAnd, mOr, mNotT, vAnd, vOr, mSkip, mIfs, mChain, mLenSet, mSetL, mFn, mGet2, miVal, miRange, miEnum, lS, lR, gVar, gTupD, gsCons, gsNil, shEnv, shIdx, inner, hideOwn, wipeE, kOf, frOf, fOut, List.getElem?_cons_zero, List.getElem?_cons_succ, List.getElem?_nil, List.set_cons_zero, List.set_cons_succ, List.map_cons, List.map_nil, List.length_cons, List.length_nil, Bool.false_eq_true, ↓reduceIte, Nat.reduceAdd, lc1, iterD, dTru, dIsaR, dIsa, dNot, cEqII, cNeII, cEqSS, cNeSS, cLtII, cLeII, cGtII, cGeII, cLtII', cLeII', bAdd, bSub, ixT0, ixL0, ixT1, ixL1, ixT2, ixL2, ixT3, biLenL, biLenT, Bool.not_true, Bool.not_false, Bool.true_and, Bool.false_and, Bool.and_true, Bool.and_false, ]
              | x :: y :: ds, _ =>
                have e : ¬ (((ds.length + 1 + 1 + 1 : Nat) : Int) = 2) := by omega
                simp only [mAug, miZip, seqOf, inSignR, ninSignR, eqNil, eqNilT, inStrsT, inStrsL, biAll, biAny, true_and, and_true, and_self, Int.reducePow, Int.reduceNeg, Int.reduceToNat, rangeD, List.cons_append, List.nil_append, List.length_append, bAddL, bAddT, bMod, bNeg, biList, biListT, biTup, biTupT, biMax, isnB, isB, mDct0, sizeLine, Nat.reducePow, Nat.reduceLeDiff, cond_true, cond_false, Bool.not_eq_true, Int.cast_ofNat_Int, decide_true, decide_false, Int.reduceEq, Int.reduceLT, Int.reduceLE, Int.reduceSub, Int.reduceAdd, beq_self_eq_true, mSeq, mRet, mVar, mConst, ev1, ev2, mBool, mTru, mIfS, mIf, mSet, mAsg, mPar2, mSortSet, mSetI, mMeth, mBi, mCall, mTup, mLst, mSl, mPart, mAnd, mOr, mNotT, vAnd, vOr, mSkip, mIfs, mChain, mLenSet, mSetL, mFn, mGet2, miVal, miRange, miEnum, lS, lR, gVar, gTupD, gsCons, gsNil, shEnv, shIdx, inner, hideOwn, wipeE, kOf, frOf, fOut, List.getElem?_cons_zero, List.getElem?_cons_succ, List.getElem?_nil, List.set_cons_zero, List.set_cons_succ, List.map_cons, List.map_nil, List.length_cons, List.length_nil, Bool.false_eq_true, ↓reduceIte, Nat.reduceAdd, lc1, iterD, dTru, dIsaR, dIsa, dNot, cEqII, cNeII, cEqSS, cNeSS, cLtII, cLeII, cGtII, cGeII, cLtII', cLeII', bAdd, bSub, ixT0, ixL0, ixT1, ixL1, ixT2, ixL2, ixT3, biLenL, biLenT, Bool.not_true, Bool.not_false, Bool.true_and, Bool.false_and, Bool.and_true, Bool.and_false, e]
        | _ => simp only [mAug, miZip, seqOf, inSignR, ninSignR, eqNil, eqNilT, inStrsT, inStrsL, biAll, biAny, true_and, and_true, and_self, Int.reducePow, Int.reduceNeg, Int.reduceToNat, rangeD, List.cons_append, List.nil_append, List.length_append, bAddL, bAddT, bMod, bNeg, biList, biListT, biTup, biTupT, biMax, isnB, isB, mDct0, sizeLine, Nat.reducePow, Nat.reduceLeDiff, cond_true, cond_false, Bool.not_eq_true, Int.cast_ofNat_Int, decide_true, decide_false, Int.reduceEq, Int.reduceLT, Int.reduceLE, Int.reduceSub, Int.reduceAdd, beq_self_eq_true, mSeq, mRet, mVar, mConst, ev1, ev2, mBool, mTru, mIfS, mIf, mSet, mAsg, mPar2, mSortSet, mSetI, mMeth, mBi, mCall, mTup, mLst, mSl, mPart, mAnd, mOr, mNotT, vAnd, vOr, mSkip, mIfs, mChain, mLenSet, mSetL, mFn, mGet2, miVal, miRange, miEnum, lS, lR, gVar, gTupD, gsCons, gsNil, shEnv, shIdx, inner, hideOwn, wipeE, kOf, frOf, fOut, List.getElem?_cons_zero, List.getElem?_cons_succ, List.getElem?_nil, List.set_cons_zero, List.set_cons_succ, List.map_cons, List.map_nil, List.length_cons, List.length_nil, Bool.false_eq_true, ↓reduceIte, Nat.reduceAdd, lc1, iterD, dTru, dIsaR, dIsa, dNot, cEqII, cNeII, cEqSS, cNeSS, cLtII, cLeII, cGtII, cGeII, cLtII', cLeII', bAdd, bSub, ixT0, ixL0, ixT1, ixL1, ixT2, ixL2, ixT3, biLenL, biLenT, Bool.not_true, Bool.not_false, Bool.true_and, Bool.false_and, Bool.and_true, Bool.and_false, hn, eqNilT, List.isEmpty_cons, cond]
    | _ => simp only [mAug, miZip, seqOf, inSignR, ninSignR, eqNil, eqNilT, inStrsT, inStrsL, biAll, biAny, true_and, and_true, and_self, Int.reducePow, Int.reduceNeg, Int.reduceToNat, rangeD, List.cons_append, List.nil_append, List.length_append, bAddL, bAddT, bMod, bNeg, biList, biListT, biTup, biTupT, biMax, isnB, isB, mDct0, sizeLine, Nat.reducePow, Nat.reduceLeDiff, cond_true, cond_false, Bool.not_eq_true, Int.cast_ofNat_Int, decide_true, decide_false, Int.reduceEq, Int.reduceLT, Int.reduceLE, Int.reduceSub, Int.reduceAdd, beq_self_eq_true, mSeq, mRet, mVar, mConst, ev1, ev2, mBool, mTru, mIfS, mIf, mSet, mAsg, mPar2, mSortSet, mSetI, mMeth, mBi, mCall, mTup, mLst, mSl, mPart, mAnd, mOr, mNotT, vAnd, vOr, mSkip, mIfs, mChain, mLenSet, mSetL, mFn, mGet2, miVal, miRange, miEnum, lS, lR, gVar, gTupD, gsCons, gsNil, shEnv, shIdx, inner, hideOwn, wipeE, kOf, frOf, fOut, List.getElem?_cons_zero, List.getElem?_cons_succ, List.getElem?_nil, List.set_cons_zero, List.set_cons_succ, List.map_cons, List.map_nil, List.length_cons, List.length_nil, Bool.false_eq_true, ↓reduceIte, Nat.reduceAdd, lc1, iterD, dTru, dIsaR, dIsa, dNot, cEqII, cNeII, cEqSS, cNeSS, cLtII, cLeII, cGtII, cGeII, cLtII', cLeII', bAdd, bSub, ixT0, ixL0, ixT1, ixL1, ixT2, ixL2, ixT3, biLenL, biLenT, Bool.not_true, Bool.not_false, Bool.true_and, Bool.false_and, Bool.and_true, Bool.and_false, hn, cond]
end K02
set_option Elab.async false
set_option linter.all false
set_option maxRecDepth 100000
set_option maxHeartbeats 1000000
set_option autoImplicit false
namespace K02
open PySem PySem.Spec PyProof.Rows L2 HC
/-! ### the law's own look: names, rows -/
def sD (bs : List Bx) : List (D × D) := sDict Bx.name (fun b => .int b.size) bs
theorem sD_is (bs : List Bx) (x : Str) : (dGet (sD bs) (.inr x)).isSome = isKn bs x := by
  unfold sD
  rw [sGet, Option.isSome_map]
  cases q : isKn bs x with
  | true =>
    obtain ⟨b, h, _⟩ := kn_find q
    rw [h]; rfl
  | false =>
    cases z : bs.find? fun b => b.name == x with
    | none => rfl
    | some b =>
      have h1 := List.find?_some z
      have h2 := List.mem_of_find?_eq_some z
      have : isKn bs x = true := List.any_eq_true.mpr ⟨b, h2, h1⟩
      rw [this] at q; cases q
theorem sD_at {bs : List Bx} {x : Str} (h : isKn bs x = true) : dIx (.dict (sD bs)) (.str x) = some (.int (szOf bs x), false) := by
  obtain ⟨b, h1, h2⟩ := kn_find h
  refine ixDict ?_
  unfold sD
  rw [sGet, h1, h2]
  rfl
theorem inS (bs : List Bx) (x : Str) : dCmpR .In (.str x) (.dict (sD bs)) = some (.bool (isKn bs x), false) := by rw [inDict, sD_is]
theorem ninS (bs : List Bx) (x : Str) : dCmpR .NotIn (.str x) (.dict (sD bs)) = some (.bool (!isKn bs x), false) := by rw [ninDict, sD_is]
def nmP (bs : List Bx) (ds : List D) (p : D × Nat) : Bool := match p.1 with
  | .str x => isKn bs x && !((strsD (ds.take p.2)).any fun y => y == x)
  | _ => false
theorem nm_known {bs : List Bx} {ds : List D} {p : D × Nat} (h : nmP bs ds p = true) : known bs p.1 = true := by
  obtain ⟨d, i⟩ := p
  unfold nmP at h
  cases d with
  | str x =>
    simp only [Bool.and_eq_true] at h
    exact h.1
  | _ => cases h
theorem nm_all (bs : List Bx) (ds : List D) : ds.zipIdx.all (nmP bs ds) = (ds.all (known bs) && distB (strsD ds)) := by
  rw [Bool.eq_iff_iff, List.all_eq_true, Bool.and_eq_true]
  constructor
  · intro h
    have hk : ds.all (known bs) = true := List.all_eq_true.mpr fun d hd => by
      obtain ⟨i, hi⟩ := List.getElem?_of_mem hd
      exact nm_known (p := (d, i)) (h (d, i) (List.mem_zipIdx_iff_getElem?.mpr hi))
    refine ⟨hk, ?_⟩
    obtain ⟨ns, rfl, hn⟩ := known_strs hk
    rw [strsD_map, dist_pre]
    intro a n b e
    have hm := h (.str n, a.length) (List.mem_zipIdx_iff_getElem?.mpr (by rw [e]; simp))
    unfold nmP at hm
    simp only [Bool.and_eq_true, Bool.not_eq_true'] at hm
    rw [← List.map_take, strsD_map, e, List.take_left'] at hm
    · exact hm.2
    · rfl
  · rintro ⟨hk, hd⟩ ⟨d, i⟩ hm
    obtain ⟨ns, rfl, hn⟩ := known_strs hk
    rw [strsD_map, dist_pre] at hd
    have hi := List.mem_zipIdx_iff_getElem?.mp hm
    rw [List.getElem?_map] at hi
    cases q : ns[i]? with
    | none => rw [q] at hi; cases hi
    | some x =>
      rw [q] at hi
      have hi' : PyData.str x = d := by simpa using hi
      subst hi'
      have hl := (List.getElem?_eq_some_iff.mp q)
      unfold nmP
      simp only [Bool.and_eq_true, Bool.not_eq_true']
      refine ⟨hn x (List.mem_of_getElem? q), ?_⟩
      rw [← List.map_take, strsD_map]
      obtain ⟨hlt, hx⟩ := hl
      exact hd (ns.take i) x (ns.drop (i + 1)) (by rw [← hx, ← List.drop_eq_getElem_cons hlt, List.take_append_drop])
theorem done_names {bs : List Bx} {ds : List D} {done rest : List (D × Nat)} {p : D × Nat} (hd : ds.zipIdx = done ++ p :: rest) (hp : done.all (nmP bs ds) = true) : ∃ ns : List Str, ds.take p.2 = ns.map PyData.str := by
  obtain ⟨h1, h2⟩ := zipIdx_at hd
  have e : ds.take p.2 = done.map (·.1) := by rw [h2, h1, List.take_left']; rw [List.length_map]
  have hk : (done.map (·.1)).all (known bs) = true := by
    rw [List.all_map, List.all_eq_true]
    exact fun q hq => nm_known (List.all_eq_true.mp hp q hq)
  obtain ⟨ns, h, _⟩ := known_strs hk
  exact ⟨ns, by rw [e, h]⟩
theorem loopN (k : Nat) (bs : List Bx) (ds rs : List D) : (ds.zipIdx.all (nmP bs ds) = true → ∃ s3 s4, mFor (i__law_is_rows_l1 (CF k)) g__law_is_rows_l1 (b__law_is_rows_l1 (CF k)) [some ⟨.dict (sD bs), false⟩, some ⟨.tuple ds, false⟩, some ⟨.tuple rs, false⟩, none, none, none, none] = some (.nx [some ⟨.dict (sD bs), false⟩, some ⟨.tuple ds, false⟩, some ⟨.tuple rs, false⟩, s3, s4, none, none])) ∧
    (ds.zipIdx.all (nmP bs ds) = false → mFor (i__law_is_rows_l1 (CF k)) g__law_is_rows_l1 (b__law_is_rows_l1 (CF k)) [some ⟨.dict (sD bs), false⟩, some ⟨.tuple ds, false⟩, some ⟨.tuple rs, false⟩, none, none, none, none] = some (.rt (.bool false) false)) := by
  obtain ⟨g1, g2⟩ := forR (f := fun p : D × Nat => PyData.tuple [.int p.2, p.1]) (mi := i__law_is_rows_l1 (CF k)) (asg := g__law_is_rows_l1) (body := b__law_is_rows_l1 (CF k))
    (env := [some ⟨.dict (sD bs), false⟩, some ⟨.tuple ds, false⟩, some ⟨.tuple rs, false⟩, none, none, none, none]) (e0 := [some ⟨.dict (sD bs), false⟩, some ⟨.tuple ds, false⟩, some ⟨.tuple rs, false⟩, none, none, none, none])
    (fun done e => ∃ s3 s4, e = [some ⟨.dict (sD bs), false⟩, some ⟨.tuple ds, false⟩, some ⟨.tuple rs, false⟩, s3, s4, none, none]) (nmP bs ds) (.bool false) false ds.zipIdx (by
      unfold i__law_is_rows_l1
      simp only [mAug, miZip, seqOf, inSignR, ninSignR, eqNil, eqNilT, inStrsT, inStrsL, biAll, biAny, true_and, and_true, and_self, Int.reducePow, Int.reduceNeg, Int.reduceToNat, rangeD, List.cons_append, List.nil_append, List.length_append, bAddL, bAddT, bMod, bNeg, biList, biListT, biTup, biTupT, biMax, isnB, isB, mDct0, sizeLine, Nat.reducePow, Nat.reduceLeDiff, cond_true, cond_false, Bool.not_eq_true, Int.cast_ofNat_Int, decide_true, decide_false, Int.reduceEq, Int.reduceLT, Int.reduceLE, Int.reduceSub, Int.reduceAdd, beq_self_eq_true, mSeq, mRet, mVar, mConst, ev1, ev2, mBool, mTru, mIfS, mIf, mSet, mAsg, mPar2, mSortSet, mSetI, mMeth, mBi, mCall, mTup, mLst, mSl, mPart, mAnd, mOr, mNotT, vAnd, vOr, mSkip, mIfs, mChain, mLenSet, mSetL, mFn, mGet2, miVal, miRange, miEnum, lS, lR, gVar, gTupD, gsCons, gsNil, shEnv, shIdx, inner, hideOwn, wipeE, kOf, frOf, fOut, List.getElem?_cons_zero, List.getElem?_cons_succ, List.getElem?_nil, List.set_cons_zero, List.set_cons_succ, List.map_cons, List.map_nil, List.length_cons, List.length_nil, Bool.false_eq_true, ↓reduceIte, Nat.reduceAdd, lc1, iterD, dTru, dIsaR, dIsa, dNot, cEqII, cNeII, cEqSS, cNeSS, cLtII, cLeII, cGtII, cGeII, cLtII', cLeII', bAdd, bSub, ixT0, ixL0, ixT1, ixL1, ixT2, ixL2, ixT3, biLenL, biLenT, Bool.not_true, Bool.not_false, Bool.true_and, Bool.false_and, Bool.and_true, Bool.and_false, enumD_zip]) ⟨none, none, rfl⟩ fun p done rest e hd hp ⟨s3, s4, he⟩ => by
      subst he
      obtain ⟨ns, hns⟩ := done_names hd hp
      have hcut : dSl (.tuple ds) none (some (p.2 : Int)) = some (.tuple (ns.map PyData.str), false) := by
        simp only [dSl]
        rw [cutTake, hns]
      obtain ⟨d, i⟩ := p
      have hns' : ds.take i = ns.map PyData.str := hns
      unfold b__law_is_rows_l1
      cases d with
      | str x =>
        simp only [mAug, miZip, seqOf, inSignR, ninSignR, eqNil, eqNilT, inStrsT, inStrsL, biAll, biAny, true_and, and_true, and_self, Int.reducePow, Int.reduceNeg, Int.reduceToNat, rangeD, List.cons_append, List.nil_append, List.length_append, bAddL, bAddT, bMod, bNeg, biList, biListT, biTup, biTupT, biMax, isnB, isB, mDct0, sizeLine, Nat.reducePow, Nat.reduceLeDiff, cond_true, cond_false, Bool.not_eq_true, Int.cast_ofNat_Int, decide_true, decide_false, Int.reduceEq, Int.reduceLT, Int.reduceLE, Int.reduceSub, Int.reduceAdd, beq_self_eq_true, mSeq, mRet, mVar, mConst, ev1, ev2, mBool, mTru, mIfS, mIf, mSet, mAsg, mPar2, mSortSet, mSetI, mMeth, mBi, mCall, mTup, mLst, mSl, mPart, mAnd, mOr, mNotT, vAnd, vOr, mSkip, mIfs, mChain, mLenSet, mSetL, mFn, mGet2, miVal, miRange, miEnum, lS, lR, gVar, gTupD, gsCons, gsNil, shEnv, shIdx, inner, hideOwn, wipeE, kOf, frOf, fOut, List.getElem?_cons_zero, List.getElem?_cons_succ, List.getElem?_nil, List.set_cons_zero, List.set_cons_succ, List.map_cons, List.map_nil, List.length_cons, List.length_nil, Bool.false_eq_true, ↓reduceIte, Nat.reduceAdd, lc1, iterD, dTru, dIsaR, dIsa, dNot, cEqII, cNeII, cEqSS, cNeSS, cLtII, cLeII, cGtII, cGeII, cLtII', cLeII', bAdd, bSub, ixT0, ixL0, ixT1, ixL1, ixT2, ixL2, ixT3, biLenL, biLenT, Bool.not_true, Bool.not_false, Bool.true_and, Bool.false_and, Bool.and_true, Bool.and_false, NxR, nmP, hns', strsD_map, ninS]
        cases q : isKn bs x with
        | false => simp only [mAug, miZip, seqOf, inSignR, ninSignR, eqNil, eqNilT, inStrsT, inStrsL, biAll, biAny, true_and, and_true, and_self, Int.reducePow, Int.reduceNeg, Int.reduceToNat, rangeD, List.cons_append, List.nil_append, List.length_append, bAddL, bAddT, bMod, bNeg, biList, biListT, biTup, biTupT, biMax, isnB, isB, mDct0, sizeLine, Nat.reducePow, Nat.reduceLeDiff, cond_true, cond_false, Bool.not_eq_true, Int.cast_ofNat_Int, decide_true, decide_false, Int.reduceEq, Int.reduceLT, Int.reduceLE, Int.reduceSub, Int.reduceAdd, beq_self_eq_true, mSeq, mRet, mVar, mConst, ev1, ev2, mBool, mTru, mIfS, mIf, mSet, mAsg, mPar2, mSortSet, mSetI, mMeth, mBi, mCall, mTup, mLst, mSl, mPart, mAnd, mOr, mNotT, vAnd, vOr, mSkip, mIfs, mChain, mLenSet, mSetL, mFn, mGet2, miVal, miRange, miEnum, lS, lR, gVar, gTupD, gsCons, gsNil, shEnv, shIdx, inner, hideOwn, wipeE, kOf, frOf, fOut, List.getElem?_cons_zero, List.getElem?_cons_succ, List.getElem?_nil, List.set_cons_zero, List.set_cons_succ, List.map_cons, List.map_nil, List.length_cons, List.length_nil, Bool.false_eq_true, ↓reduceIte, Nat.reduceAdd, lc1, iterD, dTru, dIsaR, dIsa, dNot, cEqII, cNeII, cEqSS, cNeSS, cLtII, cLeII, cGtII, cGeII, cLtII', cLeII', bAdd, bSub, ixT0, ixL0, ixT1, ixL1, ixT2, ixL2, ixT3, biLenL, biLenT, Bool.not_true, Bool.not_false, Bool.true_and, Bool.false_and, Bool.and_true, Bool.and_false, ]
        | true =>
          simp only [mAug, miZip, seqOf, inSignR, ninSignR, eqNil, eqNilT, inStrsT, inStrsL, biAll, biAny, true_and, and_true, and_self, Int.reducePow, Int.reduceNeg, Int.reduceToNat, rangeD, List.cons_append, List.nil_append, List.length_append, bAddL, bAddT, bMod, bNeg, biList, biListT, biTup, biTupT, biMax, isnB, isB, mDct0, sizeLine, Nat.reducePow, Nat.reduceLeDiff, cond_true, cond_false, Bool.not_eq_true, Int.cast_ofNat_Int, decide_true, decide_false, Int.reduceEq, Int.reduceLT, Int.reduceLE, Int.reduceSub, Int.reduceAdd, beq_self_eq_true, mSeq, mRet, mVar, mConst, ev1, ev2, mBool, mTru, mIfS, mIf, mSet, mAsg, mPar2, mSortSet, mSetI, mMeth, mBi, mCall, mTup, mLst, mSl, mPart, mAnd, mOr, mNotT, vAnd, vOr, mSkip, mIfs, mChain, mLenSet, mSetL, mFn, mGet2, miVal, miRange, miEnum, lS, lR, gVar, gTupD, gsCons, gsNil, shEnv, shIdx, inner, hideOwn, wipeE, kOf, frOf, fOut, List.getElem?_cons_zero, List.getElem?_cons_succ, List.getElem?_nil, List.set_cons_zero, List.set_cons_succ, List.map_cons, List.map_nil, List.length_cons, List.length_nil, Bool.false_eq_true, ↓reduceIte, Nat.reduceAdd, lc1, iterD, dTru, dIsaR, dIsa, dNot, cEqII, cNeII, cEqSS, cNeSS, cLtII, cLeII, cGtII, cGeII, cLtII', cLeII', bAdd, bSub, ixT0, ixL0, ixT1, ixL1, ixT2, ixL2, ixT3, biLenL, biLenT, Bool.not_true, Bool.not_false, Bool.true_and, Bool.false_and, Bool.and_true, Bool.and_false, hcut, inStrsT]
          cases q2 : (ns.any fun y => y == x) with
          | true => simp only [mAug, miZip, seqOf, inSignR, ninSignR, eqNil, eqNilT, inStrsT, inStrsL, biAll, biAny, true_and, and_true, and_self, Int.reducePow, Int.reduceNeg, Int.reduceToNat, rangeD, List.cons_append, List.nil_append, List.length_append, bAddL, bAddT, bMod, bNeg, biList, biListT, biTup, biTupT, biMax, isnB, isB, mDct0, sizeLine, Nat.reducePow, Nat.reduceLeDiff, cond_true, cond_false, Bool.not_eq_true, Int.cast_ofNat_Int, decide_true, decide_false, Int.reduceEq, Int.reduceLT, Int.reduceLE, Int.reduceSub, Int.reduceAdd, beq_self_eq_true, mSeq, mRet, mVar, mConst, ev1, ev2, mBool, mTru, mIfS, mIf, mSet, mAsg, mPar2, mSortSet, mSetI, mMeth, mBi, mCall, mTup, mLst, mSl, mPart, mAnd, mOr, mNotT, vAnd, vOr, mSkip, mIfs, mChain, mLenSet, mSetL, mFn, mGet2, miVal, miRange, miEnum, lS, lR, gVar, gTupD, gsCons, gsNil, shEnv, shIdx, inner, hideOwn, wipeE, kOf, frOf, fOut, List.getElem?_cons_zero, List.getElem?_cons_succ, List.getElem?_nil, List.set_cons_zero, List.set_cons_succ, List.map_cons, List.map_nil, List.length_cons, List.length_nil, Bool.false_eq_true, ↓reduceIte, Nat.reduceAdd, lc1, iterD, dTru, dIsaR, dIsa, dNot, cEqII, cNeII, cEqSS, cNeSS, cLtII, cLeII, cGtII, cGeII, cLtII', cLeII', bAdd, bSub, ixT0, ixL0, ixT1, ixL1, ixT2, ixL2, ixT3, biLenL, biLenT, Bool.not_true, Bool.not_false, Bool.true_and, Bool.false_and, Bool.and_true, Bool.and_false, ]
          | false =>
            simp only [mAug, miZip, seqOf, inSignR, ninSignR, eqNil, eqNilT, inStrsT, inStrsL, biAll, biAny, true_and, and_true, and_self, Int.reducePow, Int.reduceNeg, Int.reduceToNat, rangeD, List.cons_append, List.nil_append, List.length_append, bAddL, bAddT, bMod, bNeg, biList, biListT, biTup, biTupT, biMax, isnB, isB, mDct0, sizeLine, Nat.reducePow, Nat.reduceLeDiff, cond_true, cond_false, Bool.not_eq_true, Int.cast_ofNat_Int, decide_true, decide_false, Int.reduceEq, Int.reduceLT, Int.reduceLE, Int.reduceSub, Int.reduceAdd, beq_self_eq_true, mSeq, mRet, mVar, mConst, ev1, ev2, mBool, mTru, mIfS, mIf, mSet, mAsg, mPar2, mSortSet, mSetI, mMeth, mBi, mCall, mTup, mLst, mSl, mPart, mAnd, mOr, mNotT, vAnd, vOr, mSkip, mIfs, mChain, mLenSet, mSetL, mFn, mGet2, miVal, miRange, miEnum, lS, lR, gVar, gTupD, gsCons, gsNil, shEnv, shIdx, inner, hideOwn, wipeE, kOf, frOf, fOut, List.getElem?_cons_zero, List.getElem?_cons_succ, List.getElem?_nil, List.set_cons_zero, List.set_cons_succ, List.map_cons, List.map_nil, List.length_cons, List.length_nil, Bool.false_eq_true, ↓reduceIte, Nat.reduceAdd, lc1, iterD, dTru, dIsaR, dIsa, dNot, cEqII, cNeII, cEqSS, cNeSS, cLtII, cLeII, cGtII, cGeII, cLtII', cLeII', bAdd, bSub, ixT0, ixL0, ixT1, ixL1, ixT2, ixL2, ixT3, biLenL, biLenT, Bool.not_true, Bool.not_false, Bool.true_and, Bool.false_and, Bool.and_true, Bool.and_false, NxI]
            exact ⟨_, _, rfl⟩
      | _ => simp only [mAug, miZip, seqOf, inSignR, ninSignR, eqNil, eqNilT, inStrsT, inStrsL, biAll, biAny, true_and, and_true, and_self, Int.reducePow, Int.reduceNeg, Int.reduceToNat, rangeD, List.cons_append, List.nil_append, List.length_append, bAddL, bAddT, bMod, bNeg, biList, biListT, biTup, biTupT, biMax, isnB, isB, mDct0, sizeLine, Nat.reducePow, Nat.reduceLeDiff, cond_true, cond_false, Bool.not_eq_true, Int.cast_ofNat_Int, decide_true, decide_false, Int.reduceEq, Int.reduceLT, Int.reduceLE, Int.reduceSub, Int.reduceAdd, beq_self_eq_true, mSeq, mRet, mVar, mConst, ev1, ev2, mBool, mTru, mIfS, mIf, mSet, mAsg, mPar2, mSortSet, mSetI, mMeth, mBi, mCall, mTup, mLst, mSl, mPart, mAnd, mOr, mNotT, vAnd, vOr, mSkip, mIfs, mChain, mLenSet, mSetL, mFn, mGet2, miVal, miRange, miEnum, lS, lR, gVar, gTupD, gsCons, gsNil, shEnv, shIdx, inner, hideOwn, wipeE, kOf, frOf, fOut, List.getElem?_cons_zero, List.getElem?_cons_succ, List.getElem?_nil, List.set_cons_zero, List.set_cons_succ, List.map_cons, List.map_nil, List.length_cons, List.length_nil, Bool.false_eq_true, ↓reduceIte, Nat.reduceAdd, lc1, iterD, dTru, dIsaR, dIsa, dNot, cEqII, cNeII, cEqSS, cNeSS, cLtII, cLeII, cGtII, cGeII, cLtII', cLeII', bAdd, bSub, ixT0, ixL0, ixT1, ixL1, ixT2, ixL2, ixT3, biLenL, biLenT, Bool.not_true, Bool.not_false, Bool.true_and, Bool.false_and, Bool.and_true, Bool.and_false, NxR, nmP]
  refine ⟨fun h => ?_, g2⟩
  obtain ⟨e', h1, s3, s4, rfl⟩ := g1 h
  exact ⟨s3, s4, h1⟩
/-! ### rows -/
theorem zip_sw (bs : List Bx) : ∀ (ns : List Str) (row : List D), ((ns.zip row).all fun p => isWithin p.2 0 (szOf bs p.1 - 1)) = ((row.zip (ns.map (szOf bs))).all fun p => isWithin p.1 0 (p.2 - 1))
  | [], row => by simp
  | n :: ns, [] => by simp
  | n :: ns, d :: row => by
    rw [List.map_cons, List.zip_cons_cons, List.zip_cons_cons, List.all_cons, List.all_cons, zip_sw bs ns row]
theorem loopW (k : Nat) (bs : List Bx) (ns : List Str) (hn : ∀ n ∈ ns, isKn bs n = true) (row : List D) (s2 s3 s4 s6 : Option Sl) : (((ns.zip row).all fun p => isWithin p.2 0 (szOf bs p.1 - 1)) = true → ∃ s4' s6', mFor (i__law_is_rows_l2 (CF (k + 1))) g__law_is_rows_l2 (b__law_is_rows_l2 (CF (k + 1))) [some ⟨.dict (sD bs), false⟩, some ⟨.tuple (ns.map PyData.str), false⟩, s2, s3, s4, some ⟨.tuple row, false⟩, s6] = some (.nx [some ⟨.dict (sD bs), false⟩, some ⟨.tuple (ns.map PyData.str), false⟩, s2, s3, s4', some ⟨.tuple row, false⟩, s6'])) ∧
    (((ns.zip row).all fun p => isWithin p.2 0 (szOf bs p.1 - 1)) = false → mFor (i__law_is_rows_l2 (CF (k + 1))) g__law_is_rows_l2 (b__law_is_rows_l2 (CF (k + 1))) [some ⟨.dict (sD bs), false⟩, some ⟨.tuple (ns.map PyData.str), false⟩, s2, s3, s4, some ⟨.tuple row, false⟩, s6] = some (.rt (.bool false) false)) := by
  obtain ⟨g1, g2⟩ := forR (f := fun p : Str × D => PyData.tuple [.str p.1, p.2]) (mi := i__law_is_rows_l2 (CF (k + 1))) (asg := g__law_is_rows_l2) (body := b__law_is_rows_l2 (CF (k + 1)))
    (env := [some ⟨.dict (sD bs), false⟩, some ⟨.tuple (ns.map PyData.str), false⟩, s2, s3, s4, some ⟨.tuple row, false⟩, s6]) (e0 := [some ⟨.dict (sD bs), false⟩, some ⟨.tuple (ns.map PyData.str), false⟩, s2, s3, s4, some ⟨.tuple row, false⟩, s6])
    (fun done e => ∃ s4' s6', e = [some ⟨.dict (sD bs), false⟩, some ⟨.tuple (ns.map PyData.str), false⟩, s2, s3, s4', some ⟨.tuple row, false⟩, s6']) (fun p => isWithin p.2 0 (szOf bs p.1 - 1)) (.bool false) false (ns.zip row) (by
      unfold i__law_is_rows_l2
      simp only [mAug, miZip, seqOf, inSignR, ninSignR, eqNil, eqNilT, inStrsT, inStrsL, biAll, biAny, true_and, and_true, and_self, Int.reducePow, Int.reduceNeg, Int.reduceToNat, rangeD, List.cons_append, List.nil_append, List.length_append, bAddL, bAddT, bMod, bNeg, biList, biListT, biTup, biTupT, biMax, isnB, isB, mDct0, sizeLine, Nat.reducePow, Nat.reduceLeDiff, cond_true, cond_false, Bool.not_eq_true, Int.cast_ofNat_Int, decide_true, decide_false, Int.reduceEq, Int.reduceLT, Int.reduceLE, Int.reduceSub, Int.reduceAdd, beq_self_eq_true, mSeq, mRet, mVar, mConst, ev1, ev2, mBool, mTru, mIfS, mIf, mSet, mAsg, mPar2, mSortSet, mSetI, mMeth, mBi, mCall, mTup, mLst, mSl, mPart, mAnd, mOr, mNotT, vAnd, vOr, mSkip, mIfs, mChain, mLenSet, mSetL, mFn, mGet2, miVal, miRange, miEnum, lS, lR, gVar, gTupD, gsCons, gsNil, shEnv, shIdx, inner, hideOwn, wipeE, kOf, frOf, fOut, List.getElem?_cons_zero, List.getElem?_cons_succ, List.getElem?_nil, List.set_cons_zero, List.set_cons_succ, List.map_cons, List.map_nil, List.length_cons, List.length_nil, Bool.false_eq_true, ↓reduceIte, Nat.reduceAdd, lc1, iterD, dTru, dIsaR, dIsa, dNot, cEqII, cNeII, cEqSS, cNeSS, cLtII, cLeII, cGtII, cGeII, cLtII', cLeII', bAdd, bSub, ixT0, ixL0, ixT1, ixL1, ixT2, ixL2, ixT3, biLenL, biLenT, Bool.not_true, Bool.not_false, Bool.true_and, Bool.false_and, Bool.and_true, Bool.and_false, zipD_mapL]) ⟨s4, s6, rfl⟩ fun p done rest e hd hp ⟨s4', s6', he⟩ => by
      subst he
      obtain ⟨n, d⟩ := p
      have hk : isKn bs n = true := hn n (by
        have : (n, d) ∈ ns.zip row := by rw [hd]; simp
        exact (List.of_mem_zip this).1)
      unfold b__law_is_rows_l2
      cases d with
      | int i =>
        have e1 : decide (i < szOf bs n) = decide (i ≤ szOf bs n - 1) := by
          by_cases z : i < szOf bs n
          · rw [decide_eq_true z, decide_eq_true (by omega)]
          · rw [decide_eq_false z, decide_eq_false (by omega)]
        simp only [mAug, miZip, seqOf, inSignR, ninSignR, eqNil, eqNilT, inStrsT, inStrsL, biAll, biAny, true_and, and_true, and_self, Int.reducePow, Int.reduceNeg, Int.reduceToNat, rangeD, List.cons_append, List.nil_append, List.length_append, bAddL, bAddT, bMod, bNeg, biList, biListT, biTup, biTupT, biMax, isnB, isB, mDct0, sizeLine, Nat.reducePow, Nat.reduceLeDiff, cond_true, cond_false, Bool.not_eq_true, Int.cast_ofNat_Int, decide_true, decide_false, Int.reduceEq, Int.reduceLT, Int.reduceLE, Int.reduceSub, Int.reduceAdd, beq_self_eq_true, mSeq, mRet, mVar, mConst, ev1, ev2, mBool, mTru, mIfS, mIf, mSet, mAsg, mPar2, mSortSet, mSetI, mMeth, mBi, mCall, mTup, mLst, mSl, mPart, mAnd, mOr, mNotT, vAnd, vOr, mSkip, mIfs, mChain, mLenSet, mSetL, mFn, mGet2, miVal, miRange, miEnum, lS, lR, gVar, gTupD, gsCons, gsNil, shEnv, shIdx, inner, hideOwn, wipeE, kOf, frOf, fOut, List.getElem?_cons_zero, List.getElem?_cons_succ, List.getElem?_nil, List.set_cons_zero, List.set_cons_succ, List.map_cons, List.map_nil, List.length_cons, List.length_nil, Bool.false_eq_true, ↓reduceIte, Nat.reduceAdd, lc1, iterD, dTru, dIsaR, dIsa, dNot, cEqII, cNeII, cEqSS, cNeSS, cLtII, cLeII, cGtII, cGeII, cLtII', cLeII', bAdd, bSub, ixT0, ixL0, ixT1, ixL1, ixT2, ixL2, ixT3, biLenL, biLenT, Bool.not_true, Bool.not_false, Bool.true_and, Bool.false_and, Bool.and_true, Bool.and_false, NxR, p__law_is_whole, isWhole, isWithin, sD_at hk]
        by_cases z : (0 : Int) ≤ i
        · rw [← e1]
          cases q : decide (i < szOf bs n) with
          | true =>
            have q' := of_decide_eq_true q
            simp only [mAug, miZip, seqOf, inSignR, ninSignR, eqNil, eqNilT, inStrsT, inStrsL, biAll, biAny, true_and, and_true, and_self, Int.reducePow, Int.reduceNeg, Int.reduceToNat, rangeD, List.cons_append, List.nil_append, List.length_append, bAddL, bAddT, bMod, bNeg, biList, biListT, biTup, biTupT, biMax, isnB, isB, mDct0, sizeLine, Nat.reducePow, Nat.reduceLeDiff, cond_true, cond_false, Bool.not_eq_true, Int.cast_ofNat_Int, decide_true, decide_false, Int.reduceEq, Int.reduceLT, Int.reduceLE, Int.reduceSub, Int.reduceAdd, beq_self_eq_true, mSeq, mRet, mVar, mConst, ev1, ev2, mBool, mTru, mIfS, mIf, mSet, mAsg, mPar2, mSortSet, mSetI, mMeth, mBi, mCall, mTup, mLst, mSl, mPart, mAnd, mOr, mNotT, vAnd, vOr, mSkip, mIfs, mChain, mLenSet, mSetL, mFn, mGet2, miVal, miRange, miEnum, lS, lR, gVar, gTupD, gsCons, gsNil, shEnv, shIdx, inner, hideOwn, wipeE, kOf, frOf, fOut, List.getElem?_cons_zero, List.getElem?_cons_succ, List.getElem?_nil, List.set_cons_zero, List.set_cons_succ, List.map_cons, List.map_nil, List.length_cons, List.length_nil, Bool.false_eq_true, ↓reduceIte, Nat.reduceAdd, lc1, iterD, dTru, dIsaR, dIsa, dNot, cEqII, cNeII, cEqSS, cNeSS, cLtII, cLeII, cGtII, cGeII, cLtII', cLeII', bAdd, bSub, ixT0, ixL0, ixT1, ixL1, ixT2, ixL2, ixT3, biLenL, biLenT, Bool.not_true, Bool.not_false, Bool.true_and, Bool.false_and, Bool.and_true, Bool.and_false, z, q', NxI]
            exact ⟨_, _, rfl⟩
          | false =>
            have q' := of_decide_eq_false q
            simp only [mAug, miZip, seqOf, inSignR, ninSignR, eqNil, eqNilT, inStrsT, inStrsL, biAll, biAny, true_and, and_true, and_self, Int.reducePow, Int.reduceNeg, Int.reduceToNat, rangeD, List.cons_append, List.nil_append, List.length_append, bAddL, bAddT, bMod, bNeg, biList, biListT, biTup, biTupT, biMax, isnB, isB, mDct0, sizeLine, Nat.reducePow, Nat.reduceLeDiff, cond_true, cond_false, Bool.not_eq_true, Int.cast_ofNat_Int, decide_true, decide_false, Int.reduceEq, Int.reduceLT, Int.reduceLE, Int.reduceSub, Int.reduceAdd, beq_self_eq_true, mSeq, mRet, mVar, mConst, ev1, ev2, mBool, mTru, mIfS, mIf, mSet, mAsg, mPar2, mSortSet, mSetI, mMeth, mBi, mCall, mTup, mLst, mSl, mPart, mAnd, mOr, mNotT, vAnd, vOr, mSkip, mIfs, mChain, mLenSet, mSetL, mFn, mGet2, miVal, miRange, miEnum, lS, lR, gVar, gTupD, gsCons, gsNil, shEnv, shIdx, inner, hideOwn, wipeE, kOf, frOf, fOut, List.getElem?_cons_zero, List.getElem?_cons_succ, List.getElem?_nil, List.set_cons_zero, List.set_cons_succ, List.map_cons, List.map_nil, List.length_cons, List.length_nil, Bool.false_eq_true, ↓reduceIte, Nat.reduceAdd, lc1, iterD, dTru, dIsaR, dIsa, dNot, cEqII, cNeII, cEqSS, cNeSS, cLtII, cLeII, cGtII, cGeII, cLtII', cLeII', bAdd, bSub, ixT0, ixL0, ixT1, ixL1, ixT2, ixL2, ixT3, biLenL, biLenT, Bool.not_true, Bool.not_false, Bool.true_and, Bool.false_and, Bool.and_true, Bool.and_false, z, q']
        · simp only [mAug, miZip, seqOf, inSignR, ninSignR, eqNil, eqNilT, inStrsT, inStrsL, biAll, biAny, true_and, and_true, and_self, Int.reducePow, Int.reduceNeg, Int.reduceToNat, rangeD, List.cons_append, List.nil_append, List.length_append, bAddL, bAddT, bMod, bNeg, biList, biListT, biTup, biTupT, biMax, isnB, isB, mDct0, sizeLine, Nat.reducePow, Nat.reduceLeDiff, cond_true, cond_false, Bool.not_eq_true, Int.cast_ofNat_Int, decide_true, decide_false, Int.reduceEq, Int.reduceLT, Int.reduceLE, Int.reduceSub, Int.reduceAdd, beq_self_eq_true, mSeq, mRet, mVar, mConst, ev1, ev2, mBool, mTru, mIfS, mIf, mSet, mAsg, mPar2, mSortSet, mSetI, mMeth, mBi, mCall, mTup, mLst, mSl, mPart, mAnd, mOr, mNotT, vAnd, vOr, mSkip, mIfs, mChain, mLenSet, mSetL, mFn, mGet2, miVal, miRange, miEnum, lS, lR, gVar, gTupD, gsCons, gsNil, shEnv, shIdx, inner, hideOwn, wipeE, kOf, frOf, fOut, List.getElem?_cons_zero, List.getElem?_cons_succ, List.getElem?_nil, List.set_cons_zero, List.set_cons_succ, List.map_cons, List.map_nil, List.length_cons, List.length_nil, Bool.false_eq_true, ↓reduceIte, Nat.reduceAdd, lc1, iterD, dTru, dIsaR, dIsa, dNot, cEqII, cNeII, cEqSS, cNeSS, cLtII, cLeII, cGtII, cGeII, cLtII', cLeII', bAdd, bSub, ixT0, ixL0, ixT1, ixL1, ixT2, ixL2, ixT3, biLenL, biLenT, Bool.not_true, Bool.not_false, Bool.true_and, Bool.false_and, Bool.and_true, Bool.and_false, z]
      | _ => simp only [mAug, miZip, seqOf, inSignR, ninSignR, eqNil, eqNilT, inStrsT, inStrsL, biAll, biAny, true_and, and_true, and_self, Int.reducePow, Int.reduceNeg, Int.reduceToNat, rangeD, List.cons_append, List.nil_append, List.length_append, bAddL, bAddT, bMod, bNeg, biList, biListT, biTup, biTupT, biMax, isnB, isB, mDct0, sizeLine, Nat.reducePow, Nat.reduceLeDiff, cond_true, cond_false, Bool.not_eq_true, Int.cast_ofNat_Int, decide_true, decide_false, Int.reduceEq, Int.reduceLT, Int.reduceLE, Int.reduceSub, Int.reduceAdd, beq_self_eq_true, mSeq, mRet, mVar, mConst, ev1, ev2, mBool, mTru, mIfS, mIf, mSet, mAsg, mPar2, mSortSet, mSetI, mMeth, mBi, mCall, mTup, mLst, mSl, mPart, mAnd, mOr, mNotT, vAnd, vOr, mSkip, mIfs, mChain, mLenSet, mSetL, mFn, mGet2, miVal, miRange, miEnum, lS, lR, gVar, gTupD, gsCons, gsNil, shEnv, shIdx, inner, hideOwn, wipeE, kOf, frOf, fOut, List.getElem?_cons_zero, List.getElem?_cons_succ, List.getElem?_nil, List.set_cons_zero, List.set_cons_succ, List.map_cons, List.map_nil, List.length_cons, List.length_nil, Bool.false_eq_true, ↓reduceIte, Nat.reduceAdd, lc1, iterD, dTru, dIsaR, dIsa, dNot, cEqII, cNeII, cEqSS, cNeSS, cLtII, cLeII, cGtII, cGeII, cLtII', cLeII', bAdd, bSub, ixT0, ixL0, ixT1, ixL1, ixT2, ixL2, ixT3, biLenL, biLenT, Bool.not_true, Bool.not_false, Bool.true_and, Bool.false_and, Bool.and_true, Bool.and_false, NxR, p__law_is_whole, isWhole, isWithin]
  refine ⟨fun h => ?_, g2⟩
  obtain ⟨e', h1, s4', s6', rfl⟩ := g1 h
  exact ⟨s4', s6', h1⟩
def rwP (szs : List Int) (rs : List D) (p : D × Nat) : Bool := rowOk szs p.1 && (match p.2 with
  | 0 => true
  | j + 1 => HT.lexLt (intsD (rs.getD j .none)) (intsD p.1))
theorem ris_iff (ts : List (List Int)) : risB ts = true ↔ ∀ (j : Nat) a b, ts[j]? = some a → ts[j + 1]? = some b → HT.lexLt a b = true := by
  unfold risB
  rw [List.all_eq_true]
  constructor
  · intro h j a b h1 h2
    refine h (a, b) ?_
    refine List.mem_of_getElem? (i := j) ?_
    rw [List.getElem?_zip_eq_some]
    exact ⟨h1, by rw [List.getElem?_drop, Nat.add_comm]; exact h2⟩
  · rintro h ⟨a, b⟩ hm
    obtain ⟨j, hj⟩ := List.getElem?_of_mem hm
    rw [List.getElem?_zip_eq_some] at hj
    refine h j a b hj.1 ?_
    have := hj.2
    rw [List.getElem?_drop, Nat.add_comm] at this
    exact this
theorem rw_all (szs : List Int) (rs : List D) : rs.zipIdx.all (rwP szs rs) = (rs.all (rowOk szs) && risB (rs.map intsD)) := by
  rw [Bool.eq_iff_iff, List.all_eq_true, Bool.and_eq_true, ris_iff, List.all_eq_true]
  constructor
  · intro h
    refine ⟨fun d hd => ?_, fun j a b h1 h2 => ?_⟩
    · obtain ⟨i, hi⟩ := List.getElem?_of_mem hd
      have := h (d, i) (List.mem_zipIdx_iff_getElem?.mpr hi)
      unfold rwP at this
      rw [Bool.and_eq_true] at this
      exact this.1
    · rw [List.getElem?_map] at h1 h2
      cases q1 : rs[j]? with
      | none => rw [q1] at h1; cases h1
      | some x =>
        cases q2 : rs[j + 1]? with
        | none => rw [q2] at h2; cases h2
        | some y =>
          rw [q1] at h1
          rw [q2] at h2
          cases h1
          cases h2
          have := h (y, j + 1) (List.mem_zipIdx_iff_getElem?.mpr q2)
          unfold rwP at this
          rw [Bool.and_eq_true] at this
          have z := this.2
          simp only [List.getD_eq_getElem?_getD, q1, Option.getD_some] at z
          exact z
  · rintro ⟨h1, h2⟩ ⟨d, i⟩ hm
    have hi := List.mem_zipIdx_iff_getElem?.mp hm
    have hi' : rs[i]? = some d := hi
    unfold rwP
    rw [Bool.and_eq_true]
    refine ⟨h1 d (List.mem_of_getElem? hi'), ?_⟩
    cases i with
    | zero => rfl
    | succ j =>
      have hl := (List.getElem?_eq_some_iff.mp hi').1
      have q1 : rs[j]? = some rs[j] := List.getElem?_eq_getElem (by omega)
      show HT.lexLt (intsD (rs.getD j .none)) (intsD d) = true
      simp only [List.getD_eq_getElem?_getD, q1, Option.getD_some]
      exact h2 j _ _ (by rw [List.getElem?_map, q1]; rfl) (by rw [List.getElem?_map, hi']; rfl)
theorem loopR (k : Nat) (bs : List Bx) (ns : List Str) (hn : ∀ n ∈ ns, isKn bs n = true) (rs : List D) (s3 s4 : Option Sl) : (rs.zipIdx.all (rwP (ns.map (szOf bs)) rs) = true → ∃ e', mFor (i__law_is_rows_l3 (CF (k + 1))) g__law_is_rows_l3 (b__law_is_rows_l3 (CF (k + 1))) [some ⟨.dict (sD bs), false⟩, some ⟨.tuple (ns.map PyData.str), false⟩, some ⟨.tuple rs, false⟩, s3, s4, none, none] = some (.nx e')) ∧
    (rs.zipIdx.all (rwP (ns.map (szOf bs)) rs) = false → mFor (i__law_is_rows_l3 (CF (k + 1))) g__law_is_rows_l3 (b__law_is_rows_l3 (CF (k + 1))) [some ⟨.dict (sD bs), false⟩, some ⟨.tuple (ns.map PyData.str), false⟩, some ⟨.tuple rs, false⟩, s3, s4, none, none] = some (.rt (.bool false) false)) := by
  obtain ⟨g1, g2⟩ := forR (f := fun p : D × Nat => PyData.tuple [.int p.2, p.1]) (mi := i__law_is_rows_l3 (CF (k + 1))) (asg := g__law_is_rows_l3) (body := b__law_is_rows_l3 (CF (k + 1)))
    (env := [some ⟨.dict (sD bs), false⟩, some ⟨.tuple (ns.map PyData.str), false⟩, some ⟨.tuple rs, false⟩, s3, s4, none, none]) (e0 := [some ⟨.dict (sD bs), false⟩, some ⟨.tuple (ns.map PyData.str), false⟩, some ⟨.tuple rs, false⟩, s3, s4, none, none])
    (fun done e => ∃ s3' s4' s5 s6, e = [some ⟨.dict (sD bs), false⟩, some ⟨.tuple (ns.map PyData.str), false⟩, some ⟨.tuple rs, false⟩, s3', s4', s5, s6]) (rwP (ns.map (szOf bs)) rs) (.bool false) false rs.zipIdx (by
      unfold i__law_is_rows_l3
      simp only [mAug, miZip, seqOf, inSignR, ninSignR, eqNil, eqNilT, inStrsT, inStrsL, biAll, biAny, true_and, and_true, and_self, Int.reducePow, Int.reduceNeg, Int.reduceToNat, rangeD, List.cons_append, List.nil_append, List.length_append, bAddL, bAddT, bMod, bNeg, biList, biListT, biTup, biTupT, biMax, isnB, isB, mDct0, sizeLine, Nat.reducePow, Nat.reduceLeDiff, cond_true, cond_false, Bool.not_eq_true, Int.cast_ofNat_Int, decide_true, decide_false, Int.reduceEq, Int.reduceLT, Int.reduceLE, Int.reduceSub, Int.reduceAdd, beq_self_eq_true, mSeq, mRet, mVar, mConst, ev1, ev2, mBool, mTru, mIfS, mIf, mSet, mAsg, mPar2, mSortSet, mSetI, mMeth, mBi, mCall, mTup, mLst, mSl, mPart, mAnd, mOr, mNotT, vAnd, vOr, mSkip, mIfs, mChain, mLenSet, mSetL, mFn, mGet2, miVal, miRange, miEnum, lS, lR, gVar, gTupD, gsCons, gsNil, shEnv, shIdx, inner, hideOwn, wipeE, kOf, frOf, fOut, List.getElem?_cons_zero, List.getElem?_cons_succ, List.getElem?_nil, List.set_cons_zero, List.set_cons_succ, List.map_cons, List.map_nil, List.length_cons, List.length_nil, Bool.false_eq_true, ↓reduceIte, Nat.reduceAdd, lc1, iterD, dTru, dIsaR, dIsa, dNot, cEqII, cNeII, cEqSS, cNeSS, cLtII, cLeII, cGtII, cGeII, cLtII', cLeII', bAdd, bSub, ixT0, ixL0, ixT1, ixL1, ixT2, ixL2, ixT3, biLenL, biLenT, Bool.not_true, Bool.not_false, Bool.true_and, Bool.false_and, Bool.and_true, Bool.and_false, enumD_zip]) ⟨s3, s4, none, none, rfl⟩ fun p done rest e hd hp ⟨s3', s4', s5, s6, he⟩ => by
      subst he
      obtain ⟨d, i⟩ := p
      have hm : (d, i) ∈ rs.zipIdx := by rw [hd]; simp
      have hi : rs[i]? = some d := List.mem_zipIdx_iff_getElem?.mp hm
      unfold b__law_is_rows_l3
      cases d with
      | tuple row =>
        by_cases hl : row.length = ns.length
        · have hl' : ((row.length : Nat) : Int) = ((ns.length : Nat) : Int) := by omega
          obtain ⟨w1, w2⟩ := loopW k bs ns hn row (some ⟨.tuple rs, false⟩) (some ⟨.int i, false⟩) s4' s6
          have er : rowOk (ns.map (szOf bs)) (.tuple row) = ((ns.zip row).all fun p => isWithin p.2 0 (szOf bs p.1 - 1)) := by
            simp only [rowOk]
            rw [List.length_map, decide_eq_true hl, zip_sw, Bool.true_and]
          cases q : ((ns.zip row).all fun p => isWithin p.2 0 (szOf bs p.1 - 1)) with
          | false =>
            rw [q] at er
            simp only [mAug, miZip, seqOf, inSignR, ninSignR, eqNil, eqNilT, inStrsT, inStrsL, biAll, biAny, true_and, and_true, and_self, Int.reducePow, Int.reduceNeg, Int.reduceToNat, rangeD, List.cons_append, List.nil_append, List.length_append, bAddL, bAddT, bMod, bNeg, biList, biListT, biTup, biTupT, biMax, isnB, isB, mDct0, sizeLine, Nat.reducePow, Nat.reduceLeDiff, cond_true, cond_false, Bool.not_eq_true, Int.cast_ofNat_Int, decide_true, decide_false, Int.reduceEq, Int.reduceLT, Int.reduceLE, Int.reduceSub, Int.reduceAdd, beq_self_eq_true, mSeq, mRet, mVar, mConst, ev1, ev2, mBool, mTru, mIfS, mIf, mSet, mAsg, mPar2, mSortSet, mSetI, mMeth, mBi, mCall, mTup, mLst, mSl, mPart, mAnd, mOr, mNotT, vAnd, vOr, mSkip, mIfs, mChain, mLenSet, mSetL, mFn, mGet2, miVal, miRange, miEnum, lS, lR, gVar, gTupD, gsCons, gsNil, shEnv, shIdx, inner, hideOwn, wipeE, kOf, frOf, fOut, List.getElem?_cons_zero, List.getElem?_cons_succ, List.getElem?_nil, List.set_cons_zero, List.set_cons_succ, List.map_cons, List.map_nil, List.length_cons, List.length_nil, Bool.false_eq_true, ↓reduceIte, Nat.reduceAdd, lc1, iterD, dTru, dIsaR, dIsa, dNot, cEqII, cNeII, cEqSS, cNeSS, cLtII, cLeII, cGtII, cGeII, cLtII', cLeII', bAdd, bSub, ixT0, ixL0, ixT1, ixL1, ixT2, ixL2, ixT3, biLenL, biLenT, Bool.not_true, Bool.not_false, Bool.true_and, Bool.false_and, Bool.and_true, Bool.and_false, NxR, rwP, er, List.length_map, hl', w2 q]
          | true =>
            rw [q] at er
            obtain ⟨s4'', s6'', w3⟩ := w1 q
            cases i with
            | zero =>
              rw [show ((0 : Nat) : Int) = 0 from rfl] at w3
              simp only [mAug, miZip, seqOf, inSignR, ninSignR, eqNil, eqNilT, inStrsT, inStrsL, biAll, biAny, true_and, and_true, and_self, Int.reducePow, Int.reduceNeg, Int.reduceToNat, rangeD, List.cons_append, List.nil_append, List.length_append, bAddL, bAddT, bMod, bNeg, biList, biListT, biTup, biTupT, biMax, isnB, isB, mDct0, sizeLine, Nat.reducePow, Nat.reduceLeDiff, cond_true, cond_false, Bool.not_eq_true, Int.cast_ofNat_Int, decide_true, decide_false, Int.reduceEq, Int.reduceLT, Int.reduceLE, Int.reduceSub, Int.reduceAdd, beq_self_eq_true, mSeq, mRet, mVar, mConst, ev1, ev2, mBool, mTru, mIfS, mIf, mSet, mAsg, mPar2, mSortSet, mSetI, mMeth, mBi, mCall, mTup, mLst, mSl, mPart, mAnd, mOr, mNotT, vAnd, vOr, mSkip, mIfs, mChain, mLenSet, mSetL, mFn, mGet2, miVal, miRange, miEnum, lS, lR, gVar, gTupD, gsCons, gsNil, shEnv, shIdx, inner, hideOwn, wipeE, kOf, frOf, fOut, List.getElem?_cons_zero, List.getElem?_cons_succ, List.getElem?_nil, List.set_cons_zero, List.set_cons_succ, List.map_cons, List.map_nil, List.length_cons, List.length_nil, Bool.false_eq_true, ↓reduceIte, Nat.reduceAdd, lc1, iterD, dTru, dIsaR, dIsa, dNot, cEqII, cNeII, cEqSS, cNeSS, cLtII, cLeII, cGtII, cGeII, cLtII', cLeII', bAdd, bSub, ixT0, ixL0, ixT1, ixL1, ixT2, ixL2, ixT3, biLenL, biLenT, Bool.not_true, Bool.not_false, Bool.true_and, Bool.false_and, Bool.and_true, Bool.and_false, NxR, rwP, er, List.length_map, hl', w3, NxI]
              exact ⟨_, _, _, _, rfl⟩
            | succ j =>
              have hl2 := (List.getElem?_eq_some_iff.mp hi).1
              have q1 : rs[j]? = some rs[j] := List.getElem?_eq_getElem (by omega)
              have hz := zipIdx_at hd
              have hdl : j + 1 = done.length := hz.1
              have hprev : rowOk (ns.map (szOf bs)) rs[j] = true := by
                have hx : done[j]? = some (rs[j], j) := by
                  have e1 : rs.zipIdx[j]? = some (rs[j], j) := by rw [List.getElem?_zipIdx, q1]; simp
                  rw [hd, List.getElem?_append_left (by omega)] at e1
                  exact e1
                have := List.all_eq_true.mp hp _ (List.mem_of_getElem? hx)
                unfold rwP at this
                rw [Bool.and_eq_true] at this
                exact this.1
              have hI : dIx (.tuple rs) (.int (((j + 1 : Nat) : Int) - 1)) = some (rs[j], false) := by
                rw [show (((j + 1 : Nat) : Int) - 1) = (j : Nat) by omega]
                exact eIxT q1
              have hg : (((j + 1 : Nat) : Int) > 0) := by omega
              have hg' : (0 : Int) < ((j + 1 : Nat) : Int) := by omega
              have hlt : dCmpR .Lt rs[j] (.tuple row) = some (.bool (HT.lexLt (intsD rs[j]) (intsD (.tuple row))), false) := by
                have a1 := row_ints hprev
                have a2 := row_ints er
                generalize hx : intsD rs[j] = xs at *
                generalize hy : intsD (.tuple row) = ys at *
                rw [a1, a2]
                exact ltT xs ys
              have hgd : rs.getD j .none = rs[j] := by simp only [List.getD_eq_getElem?_getD, q1, Option.getD_some]
              simp only [mAug, miZip, seqOf, inSignR, ninSignR, eqNil, eqNilT, inStrsT, inStrsL, biAll, biAny, true_and, and_true, and_self, Int.reducePow, Int.reduceNeg, Int.reduceToNat, rangeD, List.cons_append, List.nil_append, List.length_append, bAddL, bAddT, bMod, bNeg, biList, biListT, biTup, biTupT, biMax, isnB, isB, mDct0, sizeLine, Nat.reducePow, Nat.reduceLeDiff, cond_true, cond_false, Bool.not_eq_true, Int.cast_ofNat_Int, decide_true, decide_false, Int.reduceEq, Int.reduceLT, Int.reduceLE, Int.reduceSub, Int.reduceAdd, beq_self_eq_true, mSeq, mRet, mVar, mConst, ev1, ev2, mBool, mTru, mIfS, mIf, mSet, mAsg, mPar2, mSortSet, mSetI, mMeth, mBi, mCall, mTup, mLst, mSl, mPart, mAnd, mOr, mNotT, vAnd, vOr, mSkip, mIfs, mChain, mLenSet, mSetL, mFn, mGet2, miVal, miRange, miEnum, lS, lR, gVar, gTupD, gsCons, gsNil, shEnv, shIdx, inner, hideOwn, wipeE, kOf, frOf, fOut, List.getElem?_cons_zero, List.getElem?_cons_succ, List.getElem?_nil, List.set_cons_zero, List.set_cons_succ, List.map_cons, List.map_nil, List.length_cons, List.length_nil, Bool.false_eq_true, ↓reduceIte, Nat.reduceAdd, lc1, iterD, dTru, dIsaR, dIsa, dNot, cEqII, cNeII, cEqSS, cNeSS, cLtII, cLeII, cGtII, cGeII, cLtII', cLeII', bAdd, bSub, ixT0, ixL0, ixT1, ixL1, ixT2, ixL2, ixT3, biLenL, biLenT, Bool.not_true, Bool.not_false, Bool.true_and, Bool.false_and, Bool.and_true, Bool.and_false, NxR, rwP, er, List.length_map, hl', w3, hg', hI, hlt, hgd]
              cases q5 : HT.lexLt (intsD rs[j]) (intsD (.tuple row)) with
              | true =>
                simp only [mAug, miZip, seqOf, inSignR, ninSignR, eqNil, eqNilT, inStrsT, inStrsL, biAll, biAny, true_and, and_true, and_self, Int.reducePow, Int.reduceNeg, Int.reduceToNat, rangeD, List.cons_append, List.nil_append, List.length_append, bAddL, bAddT, bMod, bNeg, biList, biListT, biTup, biTupT, biMax, isnB, isB, mDct0, sizeLine, Nat.reducePow, Nat.reduceLeDiff, cond_true, cond_false, Bool.not_eq_true, Int.cast_ofNat_Int, decide_true, decide_false, Int.reduceEq, Int.reduceLT, Int.reduceLE, Int.reduceSub, Int.reduceAdd, beq_self_eq_true, mSeq, mRet, mVar, mConst, ev1, ev2, mBool, mTru, mIfS, mIf, mSet, mAsg, mPar2, mSortSet, mSetI, mMeth, mBi, mCall, mTup, mLst, mSl, mPart, mAnd, mOr, mNotT, vAnd, vOr, mSkip, mIfs, mChain, mLenSet, mSetL, mFn, mGet2, miVal, miRange, miEnum, lS, lR, gVar, gTupD, gsCons, gsNil, shEnv, shIdx, inner, hideOwn, wipeE, kOf, frOf, fOut, List.getElem?_cons_zero, List.getElem?_cons_succ, List.getElem?_nil, List.set_cons_zero, List.set_cons_succ, List.map_cons, List.map_nil, List.length_cons, List.length_nil, Bool.false_eq_true, ↓reduceIte, Nat.reduceAdd, lc1, iterD, dTru, dIsaR, dIsa, dNot, cEqII, cNeII, cEqSS, cNeSS, cLtII, cLeII, cGtII, cGeII, cLtII', cLeII', bAdd, bSub, ixT0, ixL0, ixT1, ixL1, ixT2, ixL2, ixT3, biLenL, biLenT, Bool.not_true, Bool.not_false, Bool.true_and, Bool.false_and, Bool.and_true, Bool.and_false, NxI]
                exact ⟨_, _, _, _, rfl⟩
              | false => simp only [mAug, miZip, seqOf, inSignR, ninSignR, eqNil, eqNilT, inStrsT, inStrsL, biAll, biAny, true_and, and_true, and_self, Int.reducePow, Int.reduceNeg, Int.reduceToNat, rangeD, List.cons_append, List.nil_append, List.length_append, bAddL, bAddT, bMod, bNeg, biList, biListT, biTup, biTupT, biMax, isnB, isB, mDct0, sizeLine, Nat.reducePow, Nat.reduceLeDiff, cond_true, cond_false, Bool.not_eq_true, Int.cast_ofNat_Int, decide_true, decide_false, Int.reduceEq, Int.reduceLT, Int.reduceLE, Int.reduceSub, Int.reduceAdd, beq_self_eq_true, mSeq, mRet, mVar, mConst, ev1, ev2, mBool, mTru, mIfS, mIf, mSet, mAsg, mPar2, mSortSet, mSetI, mMeth, mBi, mCall, mTup, mLst, mSl, mPart, mAnd, mOr, mNotT, vAnd, vOr, mSkip, mIfs, mChain, mLenSet, mSetL, mFn, mGet2, miVal, miRange, miEnum, lS, lR, gVar, gTupD, gsCons, gsNil, shEnv, shIdx, inner, hideOwn, wipeE, kOf, frOf, fOut, List.getElem?_cons_zero, List.getElem?_cons_succ, List.getElem?_nil, List.set_cons_zero, List.set_cons_succ, List.map_cons, List.map_nil, List.length_cons, List.length_nil, Bool.false_eq_true, ↓reduceIte, Nat.reduceAdd, lc1, iterD, dTru, dIsaR, dIsa, dNot, cEqII, cNeII, cEqSS, cNeSS, cLtII, cLeII, cGtII, cGeII, cLtII', cLeII', bAdd, bSub, ixT0, ixL0, ixT1, ixL1, ixT2, ixL2, ixT3, biLenL, biLenT, Bool.not_true, Bool.not_false, Bool.true_and, Bool.false_and, Bool.and_true, Bool.and_false, ]
        · have hl' : ¬ ((row.length : Nat) : Int) = ((ns.length : Nat) : Int) := by omega
          have er : rowOk (ns.map (szOf bs)) (.tuple row) = false := by
            simp only [rowOk]
            rw [List.length_map, decide_eq_false hl, Bool.false_and]
          simp only [mAug, miZip, seqOf, inSignR, ninSignR, eqNil, eqNilT, inStrsT, inStrsL, biAll, biAny, true_and, and_true, and_self, Int.reducePow, Int.reduceNeg, Int.reduceToNat, rangeD, List.cons_append, List.nil_append, List.length_append, bAddL, bAddT, bMod, bNeg, biList, biListT, biTup, biTupT, biMax, isnB, isB, mDct0, sizeLine, Nat.reducePow, Nat.reduceLeDiff, cond_true, cond_false, Bool.not_eq_true, Int.cast_ofNat_Int, decide_true, decide_false, Int.reduceEq, Int.reduceLT, Int.reduceLE, Int.reduceSub, Int.reduceAdd, beq_self_eq_true, mSeq, mRet, mVar, mConst, ev1, ev2, mBool, mTru, mIfS, mIf, mSet, mAsg, mPar2, mSortSet, mSetI, mMeth, mBi, mCall, mTup, mLst, mSl, mPart, mAnd, mOr, mNotT, vAnd, vOr, mSkip, mIfs, mChain, mLenSet, mSetL, mFn, mGet2, miVal, miRange, miEnum, lS, lR, gVar, gTupD, gsCons, gsNil, shEnv, shIdx, inner, hideOwn, wipeE, kOf, frOf, fOut, List.getElem?_cons_zero, List.getElem?_cons_succ, List.getElem?_nil, List.set_cons_zero, List.set_cons_succ, List.map_cons, List.map_nil, List.length_cons, List.length_nil, Bool.false_eq_true, ↓reduceIte, Nat.reduceAdd, lc1, iterD, dTru, dIsaR, dIsa, dNot, cEqII, cNeII, cEqSS, cNeSS, cLtII, cLeII, cGtII, cGeII, cLtII', cLeII', bAdd, bSub, ixT0, ixL0, ixT1, ixL1, ixT2, ixL2, ixT3, biLenL, biLenT, Bool.not_true, Bool.not_false, Bool.true_and, Bool.false_and, Bool.and_true, Bool.and_false, NxR, rwP, er, List.length_map, hl']
      | _ => simp only [mAug, miZip, seqOf, inSignR, ninSignR, eqNil, eqNilT, inStrsT, inStrsL, biAll, biAny, true_and, and_true, and_self, Int.reducePow, Int.reduceNeg, Int.reduceToNat, rangeD, List.cons_append, List.nil_append, List.length_append, bAddL, bAddT, bMod, bNeg, biList, biListT, biTup, biTupT, biMax, isnB, isB, mDct0, sizeLine, Nat.reducePow, Nat.reduceLeDiff, cond_true, cond_false, Bool.not_eq_true, Int.cast_ofNat_Int, decide_true, decide_false, Int.reduceEq, Int.reduceLT, Int.reduceLE, Int.reduceSub, Int.reduceAdd, beq_self_eq_true, mSeq, mRet, mVar, mConst, ev1, ev2, mBool, mTru, mIfS, mIf, mSet, mAsg, mPar2, mSortSet, mSetI, mMeth, mBi, mCall, mTup, mLst, mSl, mPart, mAnd, mOr, mNotT, vAnd, vOr, mSkip, mIfs, mChain, mLenSet, mSetL, mFn, mGet2, miVal, miRange, miEnum, lS, lR, gVar, gTupD, gsCons, gsNil, shEnv, shIdx, inner, hideOwn, wipeE, kOf, frOf, fOut, List.getElem?_cons_zero, List.getElem?_cons_succ, List.getElem?_nil, List.set_cons_zero, List.set_cons_succ, List.map_cons, List.map_nil, List.length_cons, List.length_nil, Bool.false_eq_true, ↓reduceIte, Nat.reduceAdd, lc1, iterD, dTru, dIsaR, dIsa, dNot, cEqII, cNeII, cEqSS, cNeSS, cLtII, cLeII, cGtII, cGeII, cLtII', cLeII', bAdd, bSub, ixT0, ixL0, ixT1, ixL1, ixT2, ixL2, ixT3, biLenL, biLenT, Bool.not_true, Bool.not_false, Bool.true_and, Bool.false_and, Bool.and_true, Bool.and_false, NxR, rwP, rowOk]
  refine ⟨fun h => ?_, g2⟩
  obtain ⟨e', h1, _⟩ := g1 h
  exact ⟨e', h1⟩
theorem p__law_is_rows (k : Nat) (bs : List Bx) (a b : D) : CF (k + 2) "_law_is_rows" [.dict (sD bs), a, b] = some (.bool (among bs a b), false) := by
  rw [c__law_is_rows]
  unfold b__law_is_rows
  cases a with
  | tuple ds =>
    cases q0 : ds.isEmpty with
    | true => simp only [mAug, miZip, seqOf, inSignR, ninSignR, eqNil, eqNilT, inStrsT, inStrsL, biAll, biAny, true_and, and_true, and_self, Int.reducePow, Int.reduceNeg, Int.reduceToNat, rangeD, List.cons_append, List.nil_append, List.length_append, bAddL, bAddT, bMod, bNeg, biList, biListT, biTup, biTupT, biMax, isnB, isB, mDct0, sizeLine, Nat.reducePow, Nat.reduceLeDiff, cond_true, cond_false, Bool.not_eq_true, Int.cast_ofNat_Int, decide_true, decide_false, Int.reduceEq, Int.reduceLT, Int.reduceLE, Int.reduceSub, Int.reduceAdd, beq_self_eq_true, mSeq, mRet, mVar, mConst, ev1, ev2, mBool, mTru, mIfS, mIf, mSet, mAsg, mPar2, mSortSet, mSetI, mMeth, mBi, mCall, mTup, mLst, mSl, mPart, mAnd, mOr, mNotT, vAnd, vOr, mSkip, mIfs, mChain, mLenSet, mSetL, mFn, mGet2, miVal, miRange, miEnum, lS, lR, gVar, gTupD, gsCons, gsNil, shEnv, shIdx, inner, hideOwn, wipeE, kOf, frOf, fOut, List.getElem?_cons_zero, List.getElem?_cons_succ, List.getElem?_nil, List.set_cons_zero, List.set_cons_succ, List.map_cons, List.map_nil, List.length_cons, List.length_nil, Bool.false_eq_true, ↓reduceIte, Nat.reduceAdd, lc1, iterD, dTru, dIsaR, dIsa, dNot, cEqII, cNeII, cEqSS, cNeSS, cLtII, cLeII, cGtII, cGeII, cLtII', cLeII', bAdd, bSub, ixT0, ixL0, ixT1, ixL1, ixT2, ixL2, ixT3, biLenL, biLenT, Bool.not_true, Bool.not_false, Bool.true_and, Bool.false_and, Bool.and_true, Bool.and_false, eqNilT, q0, among, areNames]
    | false =>
      cases b with
      | tuple rs =>
        obtain ⟨n1, n2⟩ := loopN (k + 1) bs ds rs
        rw [nm_all] at n1 n2
        cases q1 : (ds.all (known bs) && distB (strsD ds)) with
        | false => simp only [mAug, miZip, seqOf, inSignR, ninSignR, eqNil, eqNilT, inStrsT, inStrsL, biAll, biAny, true_and, and_true, and_self, Int.reducePow, Int.reduceNeg, Int.reduceToNat, rangeD, List.cons_append, List.nil_append, List.length_append, bAddL, bAddT, bMod, bNeg, biList, biListT, biTup, biTupT, biMax, isnB, isB, mDct0, sizeLine, Nat.reducePow, Nat.reduceLeDiff, cond_true, cond_false, Bool.not_eq_true, Int.cast_ofNat_Int, decide_true, decide_false, Int.reduceEq, Int.reduceLT, Int.reduceLE, Int.reduceSub, Int.reduceAdd, beq_self_eq_true, mSeq, mRet, mVar, mConst, ev1, ev2, mBool, mTru, mIfS, mIf, mSet, mAsg, mPar2, mSortSet, mSetI, mMeth, mBi, mCall, mTup, mLst, mSl, mPart, mAnd, mOr, mNotT, vAnd, vOr, mSkip, mIfs, mChain, mLenSet, mSetL, mFn, mGet2, miVal, miRange, miEnum, lS, lR, gVar, gTupD, gsCons, gsNil, shEnv, shIdx, inner, hideOwn, wipeE, kOf, frOf, fOut, List.getElem?_cons_zero, List.getElem?_cons_succ, List.getElem?_nil, List.set_cons_zero, List.set_cons_succ, List.map_cons, List.map_nil, List.length_cons, List.length_nil, Bool.false_eq_true, ↓reduceIte, Nat.reduceAdd, lc1, iterD, dTru, dIsaR, dIsa, dNot, cEqII, cNeII, cEqSS, cNeSS, cLtII, cLeII, cGtII, cGeII, cLtII', cLeII', bAdd, bSub, ixT0, ixL0, ixT1, ixL1, ixT2, ixL2, ixT3, biLenL, biLenT, Bool.not_true, Bool.not_false, Bool.true_and, Bool.false_and, Bool.and_true, Bool.and_false, eqNilT, q0, among, areNames, q1, n2 q1]
        | true =>
          obtain ⟨s3, s4, n3⟩ := n1 q1
          have q1' := q1
          rw [Bool.and_eq_true] at q1'
          obtain ⟨ns, rfl, hn⟩ := known_strs q1'.1
          obtain ⟨m1, m2⟩ := loopR k bs ns hn rs s3 s4
          rw [rw_all] at m1 m2
          rw [strsD_map] at q1
          cases q2 : (rs.all (rowOk (ns.map (szOf bs))) && risB (rs.map intsD)) with
          | false => simp only [mAug, miZip, seqOf, inSignR, ninSignR, eqNil, eqNilT, inStrsT, inStrsL, biAll, biAny, true_and, and_true, and_self, Int.reducePow, Int.reduceNeg, Int.reduceToNat, rangeD, List.cons_append, List.nil_append, List.length_append, bAddL, bAddT, bMod, bNeg, biList, biListT, biTup, biTupT, biMax, isnB, isB, mDct0, sizeLine, Nat.reducePow, Nat.reduceLeDiff, cond_true, cond_false, Bool.not_eq_true, Int.cast_ofNat_Int, decide_true, decide_false, Int.reduceEq, Int.reduceLT, Int.reduceLE, Int.reduceSub, Int.reduceAdd, beq_self_eq_true, mSeq, mRet, mVar, mConst, ev1, ev2, mBool, mTru, mIfS, mIf, mSet, mAsg, mPar2, mSortSet, mSetI, mMeth, mBi, mCall, mTup, mLst, mSl, mPart, mAnd, mOr, mNotT, vAnd, vOr, mSkip, mIfs, mChain, mLenSet, mSetL, mFn, mGet2, miVal, miRange, miEnum, lS, lR, gVar, gTupD, gsCons, gsNil, shEnv, shIdx, inner, hideOwn, wipeE, kOf, frOf, fOut, List.getElem?_cons_zero, List.getElem?_cons_succ, List.getElem?_nil, List.set_cons_zero, List.set_cons_succ, List.map_cons, List.map_nil, List.length_cons, List.length_nil, Bool.false_eq_true, ↓reduceIte, Nat.reduceAdd, lc1, iterD, dTru, dIsaR, dIsa, dNot, cEqII, cNeII, cEqSS, cNeSS, cLtII, cLeII, cGtII, cGeII, cLtII', cLeII', bAdd, bSub, ixT0, ixL0, ixT1, ixL1, ixT2, ixL2, ixT3, biLenL, biLenT, Bool.not_true, Bool.not_false, Bool.true_and, Bool.false_and, Bool.and_true, Bool.and_false, eqNilT, q0, among, areNames, strsD_map, q1, n3, areRows, q2, m2 q2]
          | true =>
            obtain ⟨e', m3⟩ := m1 q2
            simp only [mAug, miZip, seqOf, inSignR, ninSignR, eqNil, eqNilT, inStrsT, inStrsL, biAll, biAny, true_and, and_true, and_self, Int.reducePow, Int.reduceNeg, Int.reduceToNat, rangeD, List.cons_append, List.nil_append, List.length_append, bAddL, bAddT, bMod, bNeg, biList, biListT, biTup, biTupT, biMax, isnB, isB, mDct0, sizeLine, Nat.reducePow, Nat.reduceLeDiff, cond_true, cond_false, Bool.not_eq_true, Int.cast_ofNat_Int, decide_true, decide_false, Int.reduceEq, Int.reduceLT, Int.reduceLE, Int.reduceSub, Int.reduceAdd, beq_self_eq_true, mSeq, mRet, mVar, mConst, ev1, ev2, mBool, mTru, mIfS, mIf, mSet, mAsg, mPar2, mSortSet, mSetI, mMeth, mBi, mCall, mTup, mLst, mSl, mPart, mAnd, mOr, mNotT, vAnd, vOr, mSkip, mIfs, mChain, mLenSet, mSetL, mFn, mGet2, miVal, miRange, miEnum, lS, lR, gVar, gTupD, gsCons, gsNil, shEnv, shIdx, inner, hideOwn, wipeE, kOf, frOf, fOut, List.getElem?_cons_zero, List.getElem?_cons_succ, List.getElem?_nil, List.set_cons_zero, List.set_cons_succ, List.map_cons, List.map_nil, List.length_cons, List.length_nil, Bool.false_eq_true, ↓reduceIte, Nat.reduceAdd, lc1, iterD, dTru, dIsaR, dIsa, dNot, cEqII, cNeII, cEqSS, cNeSS, cLtII, cLeII, cGtII, cGeII, cLtII', cLeII', bAdd, bSub, ixT0, ixL0, ixT1, ixL1, ixT2, ixL2, ixT3, biLenL, biLenT, Bool.not_true, Bool.not_false, Bool.true_and, Bool.false_and, Bool.and_true, Bool.and_false, eqNilT, q0, among, areNames, strsD_map, q1, n3, areRows, q2, m3]
      | _ => simp only [mAug, miZip, seqOf, inSignR, ninSignR, eqNil, eqNilT, inStrsT, inStrsL, biAll, biAny, true_and, and_true, and_self, Int.reducePow, Int.reduceNeg, Int.reduceToNat, rangeD, List.cons_append, List.nil_append, List.length_append, bAddL, bAddT, bMod, bNeg, biList, biListT, biTup, biTupT, biMax, isnB, isB, mDct0, sizeLine, Nat.reducePow, Nat.reduceLeDiff, cond_true, cond_false, Bool.not_eq_true, Int.cast_ofNat_Int, decide_true, decide_false, Int.reduceEq, Int.reduceLT, Int.reduceLE, Int.reduceSub, Int.reduceAdd, beq_self_eq_true, mSeq, mRet, mVar, mConst, ev1, ev2, mBool, mTru, mIfS, mIf, mSet, mAsg, mPar2, mSortSet, mSetI, mMeth, mBi, mCall, mTup, mLst, mSl, mPart, mAnd, mOr, mNotT, vAnd, vOr, mSkip, mIfs, mChain, mLenSet, mSetL, mFn, mGet2, miVal, miRange, miEnum, lS, lR, gVar, gTupD, gsCons, gsNil, shEnv, shIdx, inner, hideOwn, wipeE, kOf, frOf, fOut, List.getElem?_cons_zero, List.getElem?_cons_succ, List.getElem?_nil, List.set_cons_zero, List.set_cons_succ, List.map_cons, List.map_nil, List.length_cons, List.length_nil, Bool.false_eq_true, ↓reduceIte, Nat.reduceAdd, lc1, iterD, dTru, dIsaR, dIsa, dNot, cEqII, cNeII, cEqSS, cNeSS, cLtII, cLeII, cGtII, cGeII, cLtII', cLeII', bAdd, bSub, ixT0, ixL0, ixT1, ixL1, ixT2, ixL2, ixT3, biLenL, biLenT, Bool.not_true, Bool.not_false, Bool.true_and, Bool.false_and, Bool.and_true, Bool.and_false, eqNilT, q0, among, areRows, areNames]
  | _ => simp only [mAug, miZip, seqOf, inSignR, ninSignR, eqNil, eqNilT, inStrsT, inStrsL, biAll, biAny, true_and, and_true, and_self, Int.reducePow, Int.reduceNeg, Int.reduceToNat, rangeD, List.cons_append, List.nil_append, List.length_append, bAddL, bAddT, bMod, bNeg, biList, biListT, biTup, biTupT, biMax, isnB, isB, mDct0, sizeLine, Nat.reducePow, Nat.reduceLeDiff, cond_true, cond_false, Bool.not_eq_true, Int.cast_ofNat_Int, decide_true, decide_false, Int.reduceEq, Int.reduceLT, Int.reduceLE, Int.reduceSub, Int.reduceAdd, beq_self_eq_true, mSeq, mRet, mVar, mConst, ev1, ev2, mBool, mTru, mIfS, mIf, mSet, mAsg, mPar2, mSortSet, mSetI, mMeth, mBi, mCall, mTup, mLst, mSl, mPart, mAnd, mOr, mNotT, vAnd, vOr, mSkip, mIfs, mChain, mLenSet, mSetL, mFn, mGet2, miVal, miRange, miEnum, lS, lR, gVar, gTupD, gsCons, gsNil, shEnv, shIdx, inner, hideOwn, wipeE, kOf, frOf, fOut, List.getElem?_cons_zero, List.getElem?_cons_succ, List.getElem?_nil, List.set_cons_zero, List.set_cons_succ, List.map_cons, List.map_nil, List.length_cons, List.length_nil, Bool.false_eq_true, ↓reduceIte, Nat.reduceAdd, lc1, iterD, dTru, dIsaR, dIsa, dNot, cEqII, cNeII, cEqSS, cNeSS, cLtII, cLeII, cGtII, cGeII, cLtII', cLeII', bAdd, bSub, ixT0, ixL0, ixT1, ixL1, ixT2, ixL2, ixT3, biLenL, biLenT, Bool.not_true, Bool.not_false, Bool.true_and, Bool.false_and, Bool.and_true, Bool.and_false, among]
end K02
set_option Elab.async false
set_option linter.all false
set_option maxRecDepth 100000
set_option maxHeartbeats 1000000
set_option autoImplicit false
namespace K02
open PySem PySem.Spec PyProof.Rows L2 HC
theorem inAO (w : Str) : dCmpR .In (.str w) (.tuple [.str "and", .str "or"]) = some (.bool ((w == "and") || (w == "or")), false) := by
  have h := inStrsT w ["and", "or"]
  simp only [List.map_cons, List.map_nil] at h
  rw [h]
  have e : ∀ x : Str, (x == w) = (w == x) := fun x => by
    cases q : (w == x) with
    | true => rw [eq_of_beq q]; exact beq_self_eq_true _
    | false =>
      cases q2 : (x == w) with
      | false => rfl
      | true => rw [eq_of_beq q2, beq_self_eq_true] at q; cases q
  simp [e]
theorem fm_empty {α β : Type} (p : α → Bool) (f : α → β) : ∀ as : List α, (as.filterMap fun a => if (!p a) = true then some (f a) else none).isEmpty = as.all p
  | [] => rfl
  | a :: as => by
    rw [List.filterMap_cons, List.all_cons]
    cases p a with
    | true =>
      have ih := fm_empty p f as
      simpa using ih
    | false => simp
theorem lcFmD {inn : HC.Env} {asg : MG} {tt : MT} {te : MV} {ds : List D} (g : D → Option D) (h : ∀ d ∈ ds, lc1 inn asg tt te d = some (g d)) : lcLoop inn asg tt te ds = some (ds.filterMap g) := by
  have := lcFmA (f := fun d : D => d) (as := ds) g h
  rwa [List.map_id'] at this
theorem not_two {w : Str} (h : (w == "yes") = true) : ((w == "is") = false ∧ (w == "like") = false) ∧ (w == "among") = false := by
  rw [eq_of_beq h]
  decide +kernel
theorem not_am {w : Str} (h : (w == "among") = true) : (w == "is") = false ∧ (w == "like") = false := by
  rw [eq_of_beq h]
  decide +kernel
theorem not_is {w : Str} (h : (w == "is") = true) : (w == "like") = false := by
  rw [eq_of_beq h]
  decide +kernel
theorem p__law_cond (k : Nat) (bs : List Bx) (hd : (bs.map Bx.name).Nodup) : ∀ (n : Nat) (d : D), small d = true → CF (k + n + 6) "_law_is_condition" [.list (bs.map Bx.d), d, .int (n : Nat)] = some (.bool (cond bs n d), false)
  | 0, d, _ => by
    rw [c__law_is_condition]
    unfold b__law_is_condition
    simp only [mAug, miZip, seqOf, inSignR, ninSignR, eqNil, eqNilT, inStrsT, inStrsL, biAll, biAny, true_and, and_true, and_self, Int.reducePow, Int.reduceNeg, Int.reduceToNat, rangeD, List.cons_append, List.nil_append, List.length_append, bAddL, bAddT, bMod, bNeg, biList, biListT, biTup, biTupT, biMax, isnB, isB, mDct0, sizeLine, Nat.reducePow, Nat.reduceLeDiff, cond_true, cond_false, Bool.not_eq_true, Int.cast_ofNat_Int, decide_true, decide_false, Int.reduceEq, Int.reduceLT, Int.reduceLE, Int.reduceSub, Int.reduceAdd, beq_self_eq_true, mSeq, mRet, mVar, mConst, ev1, ev2, mBool, mTru, mIfS, mIf, mSet, mAsg, mPar2, mSortSet, mSetI, mMeth, mBi, mCall, mTup, mLst, mSl, mPart, mAnd, mOr, mNotT, vAnd, vOr, mSkip, mIfs, mChain, mLenSet, mSetL, mFn, mGet2, miVal, miRange, miEnum, lS, lR, gVar, gTupD, gsCons, gsNil, shEnv, shIdx, inner, hideOwn, wipeE, kOf, frOf, fOut, List.getElem?_cons_zero, List.getElem?_cons_succ, List.getElem?_nil, List.set_cons_zero, List.set_cons_succ, List.map_cons, List.map_nil, List.length_cons, List.length_nil, Bool.false_eq_true, ↓reduceIte, Nat.reduceAdd, lc1, iterD, dTru, dIsaR, dIsa, dNot, cEqII, cNeII, cEqSS, cNeSS, cLtII, cLeII, cGtII, cGeII, cLtII', cLeII', bAdd, bSub, ixT0, ixL0, ixT1, ixL1, ixT2, ixL2, ixT3, biLenL, biLenT, Bool.not_true, Bool.not_false, Bool.true_and, Bool.false_and, Bool.and_true, Bool.and_false, cond]
  | n + 1, d, hs => by
    have hn : ¬ (((n + 1 : Nat) : Int) < 1) := by omega
    have hm : (((n + 1 : Nat) : Int) - 1) = (n : Nat) := by omega
    rw [c__law_is_condition]
    unfold b__law_is_condition
    cases d with
    | tuple ds =>
      cases ds with
      | nil => simp only [mAug, miZip, seqOf, inSignR, ninSignR, eqNil, eqNilT, inStrsT, inStrsL, biAll, biAny, true_and, and_true, and_self, Int.reducePow, Int.reduceNeg, Int.reduceToNat, rangeD, List.cons_append, List.nil_append, List.length_append, bAddL, bAddT, bMod, bNeg, biList, biListT, biTup, biTupT, biMax, isnB, isB, mDct0, sizeLine, Nat.reducePow, Nat.reduceLeDiff, cond_true, cond_false, Bool.not_eq_true, Int.cast_ofNat_Int, decide_true, decide_false, Int.reduceEq, Int.reduceLT, Int.reduceLE, Int.reduceSub, Int.reduceAdd, beq_self_eq_true, mSeq, mRet, mVar, mConst, ev1, ev2, mBool, mTru, mIfS, mIf, mSet, mAsg, mPar2, mSortSet, mSetI, mMeth, mBi, mCall, mTup, mLst, mSl, mPart, mAnd, mOr, mNotT, vAnd, vOr, mSkip, mIfs, mChain, mLenSet, mSetL, mFn, mGet2, miVal, miRange, miEnum, lS, lR, gVar, gTupD, gsCons, gsNil, shEnv, shIdx, inner, hideOwn, wipeE, kOf, frOf, fOut, List.getElem?_cons_zero, List.getElem?_cons_succ, List.getElem?_nil, List.set_cons_zero, List.set_cons_succ, List.map_cons, List.map_nil, List.length_cons, List.length_nil, Bool.false_eq_true, ↓reduceIte, Nat.reduceAdd, lc1, iterD, dTru, dIsaR, dIsa, dNot, cEqII, cNeII, cEqSS, cNeSS, cLtII, cLeII, cGtII, cGeII, cLtII', cLeII', bAdd, bSub, ixT0, ixL0, ixT1, ixL1, ixT2, ixL2, ixT3, biLenL, biLenT, Bool.not_true, Bool.not_false, Bool.true_and, Bool.false_and, Bool.and_true, Bool.and_false, hn, eqNilT, List.isEmpty_nil, cond]
      | cons w ds =>
        cases w with
        | str w =>
          have hds : ∀ d ∈ ds, small d = true := fun d hd => small_tup hs d (List.mem_cons_of_mem _ hd)
          cases q0 : (w == "not") with
          | true =>
            simp only [mAug, miZip, seqOf, inSignR, ninSignR, eqNil, eqNilT, inStrsT, inStrsL, biAll, biAny, true_and, and_true, and_self, Int.reducePow, Int.reduceNeg, Int.reduceToNat, rangeD, List.cons_append, List.nil_append, List.length_append, bAddL, bAddT, bMod, bNeg, biList, biListT, biTup, biTupT, biMax, isnB, isB, mDct0, sizeLine, Nat.reducePow, Nat.reduceLeDiff, cond_true, cond_false, Bool.not_eq_true, Int.cast_ofNat_Int, decide_true, decide_false, Int.reduceEq, Int.reduceLT, Int.reduceLE, Int.reduceSub, Int.reduceAdd, beq_self_eq_true, mSeq, mRet, mVar, mConst, ev1, ev2, mBool, mTru, mIfS, mIf, mSet, mAsg, mPar2, mSortSet, mSetI, mMeth, mBi, mCall, mTup, mLst, mSl, mPart, mAnd, mOr, mNotT, vAnd, vOr, mSkip, mIfs, mChain, mLenSet, mSetL, mFn, mGet2, miVal, miRange, miEnum, lS, lR, gVar, gTupD, gsCons, gsNil, shEnv, shIdx, inner, hideOwn, wipeE, kOf, frOf, fOut, List.getElem?_cons_zero, List.getElem?_cons_succ, List.getElem?_nil, List.set_cons_zero, List.set_cons_succ, List.map_cons, List.map_nil, List.length_cons, List.length_nil, Bool.false_eq_true, ↓reduceIte, Nat.reduceAdd, lc1, iterD, dTru, dIsaR, dIsa, dNot, cEqII, cNeII, cEqSS, cNeSS, cLtII, cLeII, cGtII, cGeII, cLtII', cLeII', bAdd, bSub, ixT0, ixL0, ixT1, ixL1, ixT2, ixL2, ixT3, biLenL, biLenT, Bool.not_true, Bool.not_false, Bool.true_and, Bool.false_and, Bool.and_true, Bool.and_false, hn, eqNilT, List.isEmpty_cons, cEqSS, q0, cond]
            match ds, hds with
            | [], _ => simp only [mAug, miZip, seqOf, inSignR, ninSignR, eqNil, eqNilT, inStrsT, inStrsL, biAll, biAny, true_and, and_true, and_self, Int.reducePow, Int.reduceNeg, Int.reduceToNat, rangeD, List.cons_append, List.nil_append, List.length_append, bAddL, bAddT, bMod, bNeg, biList, biListT, biTup, biTupT, biMax, isnB, isB, mDct0, sizeLine, Nat.reducePow, Nat.reduceLeDiff, cond_true, cond_false, Bool.not_eq_true, Int.cast_ofNat_Int, decide_true, decide_false, Int.reduceEq, Int.reduceLT, Int.reduceLE, Int.reduceSub, Int.reduceAdd, beq_self_eq_true, mSeq, mRet, mVar, mConst, ev1, ev2, mBool, mTru, mIfS, mIf, mSet, mAsg, mPar2, mSortSet, mSetI, mMeth, mBi, mCall, mTup, mLst, mSl, mPart, mAnd, mOr, mNotT, vAnd, vOr, mSkip, mIfs, mChain, mLenSet, mSetL, mFn, mGet2, miVal, miRange, miEnum, lS, lR, gVar, gTupD, gsCons, gsNil, shEnv, shIdx, inner, hideOwn, wipeE, kOf, frOf, fOut, List.getElem?_cons_zero, List.getElem?_cons_succ, List.getElem?_nil, List.set_cons_zero, List.set_cons_succ, List.map_cons, List.map_nil, List.length_cons, List.length_nil, Bool.false_eq_true, ↓reduceIte, Nat.reduceAdd, lc1, iterD, dTru, dIsaR, dIsa, dNot, cEqII, cNeII, cEqSS, cNeSS, cLtII, cLeII, cGtII, cGeII, cLtII', cLeII', bAdd, bSub, ixT0, ixL0, ixT1, ixL1, ixT2, ixL2, ixT3, biLenL, biLenT, Bool.not_true, Bool.not_false, Bool.true_and, Bool.false_and, Bool.and_true, Bool.and_false, ]
            | [x], hds =>
              have ih := p__law_cond k bs hd n x (hds x (by simp))
              rw [show k + n + 6 = k + (n + 1) + 5 by omega] at ih
              simp only [mAug, miZip, seqOf, inSignR, ninSignR, eqNil, eqNilT, inStrsT, inStrsL, biAll, biAny, true_and, and_true, and_self, Int.reducePow, Int.reduceNeg, Int.reduceToNat, rangeD, List.cons_append, List.nil_append, List.length_append, bAddL, bAddT, bMod, bNeg, biList, biListT, biTup, biTupT, biMax, isnB, isB, mDct0, sizeLine, Nat.reducePow, Nat.reduceLeDiff, cond_true, cond_false, Bool.not_eq_true, Int.cast_ofNat_Int, decide_true, decide_false, Int.reduceEq, Int.reduceLT, Int.reduceLE, Int.reduceSub, Int.reduceAdd, beq_self_eq_true, mSeq, mRet, mVar, mConst, ev1, ev2, mBool, mTru, mIfS, mIf, mSet, mAsg, mPar2, mSortSet, mSetI, mMeth, mBi, mCall, mTup, mLst, mSl, mPart, mAnd, mOr, mNotT, vAnd, vOr, mSkip, mIfs, mChain, mLenSet, mSetL, mFn, mGet2, miVal, miRange, miEnum, lS, lR, gVar, gTupD, gsCons, gsNil, shEnv, shIdx, inner, hideOwn, wipeE, kOf, frOf, fOut, List.getElem?_cons_zero, List.getElem?_cons_succ, List.getElem?_nil, List.set_cons_zero, List.set_cons_succ, List.map_cons, List.map_nil, List.length_cons, List.length_nil, Bool.false_eq_true, ↓reduceIte, Nat.reduceAdd, lc1, iterD, dTru, dIsaR, dIsa, dNot, cEqII, cNeII, cEqSS, cNeSS, cLtII, cLeII, cGtII, cGeII, cLtII', cLeII', bAdd, bSub, ixT0, ixL0, ixT1, ixL1, ixT2, ixL2, ixT3, biLenL, biLenT, Bool.not_true, Bool.not_false, Bool.true_and, Bool.false_and, Bool.and_true, Bool.and_false, hm, ih]
            | x :: y :: ds, _ =>
              have e : ¬ (((ds.length + 1 + 1 + 1 : Nat) : Int) = 2) := by omega
              simp only [mAug, miZip, seqOf, inSignR, ninSignR, eqNil, eqNilT, inStrsT, inStrsL, biAll, biAny, true_and, and_true, and_self, Int.reducePow, Int.reduceNeg, Int.reduceToNat, rangeD, List.cons_append, List.nil_append, List.length_append, bAddL, bAddT, bMod, bNeg, biList, biListT, biTup, biTupT, biMax, isnB, isB, mDct0, sizeLine, Nat.reducePow, Nat.reduceLeDiff, cond_true, cond_false, Bool.not_eq_true, Int.cast_ofNat_Int, decide_true, decide_false, Int.reduceEq, Int.reduceLT, Int.reduceLE, Int.reduceSub, Int.reduceAdd, beq_self_eq_true, mSeq, mRet, mVar, mConst, ev1, ev2, mBool, mTru, mIfS, mIf, mSet, mAsg, mPar2, mSortSet, mSetI, mMeth, mBi, mCall, mTup, mLst, mSl, mPart, mAnd, mOr, mNotT, vAnd, vOr, mSkip, mIfs, mChain, mLenSet, mSetL, mFn, mGet2, miVal, miRange, miEnum, lS, lR, gVar, gTupD, gsCons, gsNil, shEnv, shIdx, inner, hideOwn, wipeE, kOf, frOf, fOut, List.getElem?_cons_zero, List.getElem?_cons_succ, List.getElem?_nil, List.set_cons_zero, List.set_cons_succ, List.map_cons, List.map_nil, List.length_cons, List.length_nil, Bool.false_eq_true, ↓reduceIte, Nat.reduceAdd, lc1, iterD, dTru, dIsaR, dIsa, dNot, cEqII, cNeII, cEqSS, cNeSS, cLtII, cLeII, cGtII, cGeII, cLtII', cLeII', bAdd, bSub, ixT0, ixL0, ixT1, ixL1, ixT2, ixL2, ixT3, biLenL, biLenT, Bool.not_true, Bool.not_false, Bool.true_and, Bool.false_and, Bool.and_true, Bool.and_false, e]
          | false =>
            cases q1 : ((w == "and") || (w == "or")) with
            | true =>
              simp only [mAug, miZip, seqOf, inSignR, ninSignR, eqNil, eqNilT, inStrsT, inStrsL, biAll, biAny, true_and, and_true, and_self, Int.reducePow, Int.reduceNeg, Int.reduceToNat, rangeD, List.cons_append, List.nil_append, List.length_append, bAddL, bAddT, bMod, bNeg, biList, biListT, biTup, biTupT, biMax, isnB, isB, mDct0, sizeLine, Nat.reducePow, Nat.reduceLeDiff, cond_true, cond_false, Bool.not_eq_true, Int.cast_ofNat_Int, decide_true, decide_false, Int.reduceEq, Int.reduceLT, Int.reduceLE, Int.reduceSub, Int.reduceAdd, beq_self_eq_true, mSeq, mRet, mVar, mConst, ev1, ev2, mBool, mTru, mIfS, mIf, mSet, mAsg, mPar2, mSortSet, mSetI, mMeth, mBi, mCall, mTup, mLst, mSl, mPart, mAnd, mOr, mNotT, vAnd, vOr, mSkip, mIfs, mChain, mLenSet, mSetL, mFn, mGet2, miVal, miRange, miEnum, lS, lR, gVar, gTupD, gsCons, gsNil, shEnv, shIdx, inner, hideOwn, wipeE, kOf, frOf, fOut, List.getElem?_cons_zero, List.getElem?_cons_succ, List.getElem?_nil, List.set_cons_zero, List.set_cons_succ, List.map_cons, List.map_nil, List.length_cons, List.length_nil, Bool.false_eq_true, ↓reduceIte, Nat.reduceAdd, lc1, iterD, dTru, dIsaR, dIsa, dNot, cEqII, cNeII, cEqSS, cNeSS, cLtII, cLeII, cGtII, cGeII, cLtII', cLeII', bAdd, bSub, ixT0, ixL0, ixT1, ixL1, ixT2, ixL2, ixT3, biLenL, biLenT, Bool.not_true, Bool.not_false, Bool.true_and, Bool.false_and, Bool.and_true, Bool.and_false, hn, eqNilT, List.isEmpty_cons, cEqSS, q0, q1, inAO, cond]
              match ds, hds with
              | [], _ => simp only [mAug, miZip, seqOf, inSignR, ninSignR, eqNil, eqNilT, inStrsT, inStrsL, biAll, biAny, true_and, and_true, and_self, Int.reducePow, Int.reduceNeg, Int.reduceToNat, rangeD, List.cons_append, List.nil_append, List.length_append, bAddL, bAddT, bMod, bNeg, biList, biListT, biTup, biTupT, biMax, isnB, isB, mDct0, sizeLine, Nat.reducePow, Nat.reduceLeDiff, cond_true, cond_false, Bool.not_eq_true, Int.cast_ofNat_Int, decide_true, decide_false, Int.reduceEq, Int.reduceLT, Int.reduceLE, Int.reduceSub, Int.reduceAdd, beq_self_eq_true, mSeq, mRet, mVar, mConst, ev1, ev2, mBool, mTru, mIfS, mIf, mSet, mAsg, mPar2, mSortSet, mSetI, mMeth, mBi, mCall, mTup, mLst, mSl, mPart, mAnd, mOr, mNotT, vAnd, vOr, mSkip, mIfs, mChain, mLenSet, mSetL, mFn, mGet2, miVal, miRange, miEnum, lS, lR, gVar, gTupD, gsCons, gsNil, shEnv, shIdx, inner, hideOwn, wipeE, kOf, frOf, fOut, List.getElem?_cons_zero, List.getElem?_cons_succ, List.getElem?_nil, List.set_cons_zero, List.set_cons_succ, List.map_cons, List.map_nil, List.length_cons, List.length_nil, Bool.false_eq_true, ↓reduceIte, Nat.reduceAdd, lc1, iterD, dTru, dIsaR, dIsa, dNot, cEqII, cNeII, cEqSS, cNeSS, cLtII, cLeII, cGtII, cGeII, cLtII', cLeII', bAdd, bSub, ixT0, ixL0, ixT1, ixL1, ixT2, ixL2, ixT3, biLenL, biLenT, Bool.not_true, Bool.not_false, Bool.true_and, Bool.false_and, Bool.and_true, Bool.and_false, ]
              | [x], hds =>
                have hx := hds x (by simp)
                cases x with
                | tuple ps =>
                  have hps := small_tup hx
                  by_cases g1 : 1 ≤ ps.length
                  · have g1' : (1 : Int) ≤ (ps.length : Nat) := by omega
                    by_cases g2 : ps.length ≤ 8
                    · have g2' : ((ps.length : Nat) : Int) ≤ 8 := by omega
                      simp only [mAug, miZip, seqOf, inSignR, ninSignR, eqNil, eqNilT, inStrsT, inStrsL, biAll, biAny, true_and, and_true, and_self, Int.reducePow, Int.reduceNeg, Int.reduceToNat, rangeD, List.cons_append, List.nil_append, List.length_append, bAddL, bAddT, bMod, bNeg, biList, biListT, biTup, biTupT, biMax, isnB, isB, mDct0, sizeLine, Nat.reducePow, Nat.reduceLeDiff, cond_true, cond_false, Bool.not_eq_true, Int.cast_ofNat_Int, decide_true, decide_false, Int.reduceEq, Int.reduceLT, Int.reduceLE, Int.reduceSub, Int.reduceAdd, beq_self_eq_true, mSeq, mRet, mVar, mConst, ev1, ev2, mBool, mTru, mIfS, mIf, mSet, mAsg, mPar2, mSortSet, mSetI, mMeth, mBi, mCall, mTup, mLst, mSl, mPart, mAnd, mOr, mNotT, vAnd, vOr, mSkip, mIfs, mChain, mLenSet, mSetL, mFn, mGet2, miVal, miRange, miEnum, lS, lR, gVar, gTupD, gsCons, gsNil, shEnv, shIdx, inner, hideOwn, wipeE, kOf, frOf, fOut, List.getElem?_cons_zero, List.getElem?_cons_succ, List.getElem?_nil, List.set_cons_zero, List.set_cons_succ, List.map_cons, List.map_nil, List.length_cons, List.length_nil, Bool.false_eq_true, ↓reduceIte, Nat.reduceAdd, lc1, iterD, dTru, dIsaR, dIsa, dNot, cEqII, cNeII, cEqSS, cNeSS, cLtII, cLeII, cGtII, cGeII, cLtII', cLeII', bAdd, bSub, ixT0, ixL0, ixT1, ixL1, ixT2, ixL2, ixT3, biLenL, biLenT, Bool.not_true, Bool.not_false, Bool.true_and, Bool.false_and, Bool.and_true, Bool.and_false, g1, g1', g2, g2', mLc]
                      rw [lcFmD (fun d => if (!cond bs n d) = true then some d else none) (fun d hd' => by
                        have ih := p__law_cond k bs hd n d (hps d hd')
                        rw [show k + n + 6 = k + (n + 1) + 5 by omega] at ih
                        cases q : cond bs n d <;> (rw [q] at ih; simp only [mAug, miZip, seqOf, inSignR, ninSignR, eqNil, eqNilT, inStrsT, inStrsL, biAll, biAny, true_and, and_true, and_self, Int.reducePow, Int.reduceNeg, Int.reduceToNat, rangeD, List.cons_append, List.nil_append, List.length_append, bAddL, bAddT, bMod, bNeg, biList, biListT, biTup, biTupT, biMax, isnB, isB, mDct0, sizeLine, Nat.reducePow, Nat.reduceLeDiff, cond_true, cond_false, Bool.not_eq_true, Int.cast_ofNat_Int, decide_true, decide_false, Int.reduceEq, Int.reduceLT, Int.reduceLE, Int.reduceSub, Int.reduceAdd, beq_self_eq_true, mSeq, mRet, mVar, mConst, ev1, ev2, mBool, mTru, mIfS, mIf, mSet, mAsg, mPar2, mSortSet, mSetI, mMeth, mBi, mCall, mTup, mLst, mSl, mPart, mAnd, mOr, mNotT, vAnd, vOr, mSkip, mIfs, mChain, mLenSet, mSetL, mFn, mGet2, miVal, miRange, miEnum, lS, lR, gVar, gTupD, gsCons, gsNil, shEnv, shIdx, inner, hideOwn, wipeE, kOf, frOf, fOut, List.getElem?_cons_zero, List.getElem?_cons_succ, List.getElem?_nil, List.set_cons_zero, List.set_cons_succ, List.map_cons, List.map_nil, List.length_cons, List.length_nil, Bool.false_eq_true, ↓reduceIte, Nat.reduceAdd, lc1, iterD, dTru, dIsaR, dIsa, dNot, cEqII, cNeII, cEqSS, cNeSS, cLtII, cLeII, cGtII, cGeII, cLtII', cLeII', bAdd, bSub, ixT0, ixL0, ixT1, ixL1, ixT2, ixL2, ixT3, biLenL, biLenT, Bool.not_true, Bool.not_false, Bool.true_and, Bool.false_and, Bool.and_true, Bool.and_false, hm, ih]))]
                      have fe := fm_empty (cond bs n) (fun d : D => d) ps
                      simp only [mAug, miZip, seqOf, inSignR, ninSignR, eqNil, eqNilT, inStrsT, inStrsL, biAll, biAny, true_and, and_true, and_self, Int.reducePow, Int.reduceNeg, Int.reduceToNat, rangeD, List.cons_append, List.nil_append, List.length_append, bAddL, bAddT, bMod, bNeg, biList, biListT, biTup, biTupT, biMax, isnB, isB, mDct0, sizeLine, Nat.reducePow, Nat.reduceLeDiff, cond_true, cond_false, Bool.not_eq_true, Int.cast_ofNat_Int, decide_true, decide_false, Int.reduceEq, Int.reduceLT, Int.reduceLE, Int.reduceSub, Int.reduceAdd, beq_self_eq_true, mSeq, mRet, mVar, mConst, ev1, ev2, mBool, mTru, mIfS, mIf, mSet, mAsg, mPar2, mSortSet, mSetI, mMeth, mBi, mCall, mTup, mLst, mSl, mPart, mAnd, mOr, mNotT, vAnd, vOr, mSkip, mIfs, mChain, mLenSet, mSetL, mFn, mGet2, miVal, miRange, miEnum, lS, lR, gVar, gTupD, gsCons, gsNil, shEnv, shIdx, inner, hideOwn, wipeE, kOf, frOf, fOut, List.getElem?_cons_zero, List.getElem?_cons_succ, List.getElem?_nil, List.set_cons_zero, List.set_cons_succ, List.map_cons, List.map_nil, List.length_cons, List.length_nil, Bool.false_eq_true, ↓reduceIte, Nat.reduceAdd, lc1, iterD, dTru, dIsaR, dIsa, dNot, cEqII, cNeII, cEqSS, cNeSS, cLtII, cLeII, cGtII, cGeII, cLtII', cLeII', bAdd, bSub, ixT0, ixL0, ixT1, ixL1, ixT2, ixL2, ixT3, biLenL, biLenT, Bool.not_true, Bool.not_false, Bool.true_and, Bool.false_and, Bool.and_true, Bool.and_false, eqNil, fe]
                    · have g2' : ¬ ((ps.length : Nat) : Int) ≤ 8 := by omega
                      simp only [mAug, miZip, seqOf, inSignR, ninSignR, eqNil, eqNilT, inStrsT, inStrsL, biAll, biAny, true_and, and_true, and_self, Int.reducePow, Int.reduceNeg, Int.reduceToNat, rangeD, List.cons_append, List.nil_append, List.length_append, bAddL, bAddT, bMod, bNeg, biList, biListT, biTup, biTupT, biMax, isnB, isB, mDct0, sizeLine, Nat.reducePow, Nat.reduceLeDiff, cond_true, cond_false, Bool.not_eq_true, Int.cast_ofNat_Int, decide_true, decide_false, Int.reduceEq, Int.reduceLT, Int.reduceLE, Int.reduceSub, Int.reduceAdd, beq_self_eq_true, mSeq, mRet, mVar, mConst, ev1, ev2, mBool, mTru, mIfS, mIf, mSet, mAsg, mPar2, mSortSet, mSetI, mMeth, mBi, mCall, mTup, mLst, mSl, mPart, mAnd, mOr, mNotT, vAnd, vOr, mSkip, mIfs, mChain, mLenSet, mSetL, mFn, mGet2, miVal, miRange, miEnum, lS, lR, gVar, gTupD, gsCons, gsNil, shEnv, shIdx, inner, hideOwn, wipeE, kOf, frOf, fOut, List.getElem?_cons_zero, List.getElem?_cons_succ, List.getElem?_nil, List.set_cons_zero, List.set_cons_succ, List.map_cons, List.map_nil, List.length_cons, List.length_nil, Bool.false_eq_true, ↓reduceIte, Nat.reduceAdd, lc1, iterD, dTru, dIsaR, dIsa, dNot, cEqII, cNeII, cEqSS, cNeSS, cLtII, cLeII, cGtII, cGeII, cLtII', cLeII', bAdd, bSub, ixT0, ixL0, ixT1, ixL1, ixT2, ixL2, ixT3, biLenL, biLenT, Bool.not_true, Bool.not_false, Bool.true_and, Bool.false_and, Bool.and_true, Bool.and_false, g1, g1', g2, g2']
                  · have g1' : ¬ (1 : Int) ≤ (ps.length : Nat) := by omega
                    simp only [mAug, miZip, seqOf, inSignR, ninSignR, eqNil, eqNilT, inStrsT, inStrsL, biAll, biAny, true_and, and_true, and_self, Int.reducePow, Int.reduceNeg, Int.reduceToNat, rangeD, List.cons_append, List.nil_append, List.length_append, bAddL, bAddT, bMod, bNeg, biList, biListT, biTup, biTupT, biMax, isnB, isB, mDct0, sizeLine, Nat.reducePow, Nat.reduceLeDiff, cond_true, cond_false, Bool.not_eq_true, Int.cast_ofNat_Int, decide_true, decide_false, Int.reduceEq, Int.reduceLT, Int.reduceLE, Int.reduceSub, Int.reduceAdd, beq_self_eq_true, mSeq, mRet, mVar, mConst, ev1, ev2, mBool, mTru, mIfS, mIf, mSet, mAsg, mPar2, mSortSet, mSetI, mMeth, mBi, mCall, mTup, mLst, mSl, mPart, mAnd, mOr, mNotT, vAnd, vOr, mSkip, mIfs, mChain, mLenSet, mSetL, mFn, mGet2, miVal, miRange, miEnum, lS, lR, gVar, gTupD, gsCons, gsNil, shEnv, shIdx, inner, hideOwn, wipeE, kOf, frOf, fOut, List.getElem?_cons_zero, List.getElem?_cons_succ, List.getElem?_nil, List.set_cons_zero, List.set_cons_succ, List.map_cons, List.map_nil, List.length_cons, List.length_nil, Bool.false_eq_true, ↓reduceIte, Nat.reduceAdd, lc1, iterD, dTru, dIsaR, dIsa, dNot, cEqII, cNeII, cEqSS, cNeSS, cLtII, cLeII, cGtII, cGeII, cLtII', cLeII', bAdd, bSub, ixT0, ixL0, ixT1, ixL1, ixT2, ixL2, ixT3, biLenL, biLenT, Bool.not_true, Bool.not_false, Bool.true_and, Bool.false_and, Bool.and_true, Bool.and_false, g1, g1']
                | _ => simp only [mAug, miZip, seqOf, inSignR, ninSignR, eqNil, eqNilT, inStrsT, inStrsL, biAll, biAny, true_and, and_true, and_self, Int.reducePow, Int.reduceNeg, Int.reduceToNat, rangeD, List.cons_append, List.nil_append, List.length_append, bAddL, bAddT, bMod, bNeg, biList, biListT, biTup, biTupT, biMax, isnB, isB, mDct0, sizeLine, Nat.reducePow, Nat.reduceLeDiff, cond_true, cond_false, Bool.not_eq_true, Int.cast_ofNat_Int, decide_true, decide_false, Int.reduceEq, Int.reduceLT, Int.reduceLE, Int.reduceSub, Int.reduceAdd, beq_self_eq_true, mSeq, mRet, mVar, mConst, ev1, ev2, mBool, mTru, mIfS, mIf, mSet, mAsg, mPar2, mSortSet, mSetI, mMeth, mBi, mCall, mTup, mLst, mSl, mPart, mAnd, mOr, mNotT, vAnd, vOr, mSkip, mIfs, mChain, mLenSet, mSetL, mFn, mGet2, miVal, miRange, miEnum, lS, lR, gVar, gTupD, gsCons, gsNil, shEnv, shIdx, inner, hideOwn, wipeE, kOf, frOf, fOut, List.getElem?_cons_zero, List.getElem?_cons_succ, List.getElem?_nil, List.set_cons_zero, List.set_cons_succ, List.map_cons, List.map_nil, List.length_cons, List.length_nil, Bool.false_eq_true, ↓reduceIte, Nat.reduceAdd, lc1, iterD, dTru, dIsaR, dIsa, dNot, cEqII, cNeII, cEqSS, cNeSS, cLtII, cLeII, cGtII, cGeII, cLtII', cLeII', bAdd, bSub, ixT0, ixL0, ixT1, ixL1, ixT2, ixL2, ixT3, biLenL, biLenT, Bool.not_true, Bool.not_false, Bool.true_and, Bool.false_and, Bool.and_true, Bool.and_false, ]
              | x :: y :: ds, _ =>
                have e : ¬ (((ds.length + 1 + 1 + 1 : Nat) : Int) = 2) := by omega
                simp only [mAug, miZip, seqOf, inSignR, ninSignR, eqNil, eqNilT, inStrsT, inStrsL, biAll, biAny, true_and, and_true, and_self, Int.reducePow, Int.reduceNeg, Int.reduceToNat, rangeD, List.cons_append, List.nil_append, List.length_append, bAddL, bAddT, bMod, bNeg, biList, biListT, biTup, biTupT, biMax, isnB, isB, mDct0, sizeLine, Nat.reducePow, Nat.reduceLeDiff, cond_true, cond_false, Bool.not_eq_true, Int.cast_ofNat_Int, decide_true, decide_false, Int.reduceEq, Int.reduceLT, Int.reduceLE, Int.reduceSub, Int.reduceAdd, beq_self_eq_true, mSeq, mRet, mVar, mConst, ev1, ev2, mBool, mTru, mIfS, mIf, mSet, mAsg, mPar2, mSortSet, mSetI, mMeth, mBi, mCall, mTup, mLst, mSl, mPart, mAnd, mOr, mNotT, vAnd, vOr, mSkip, mIfs, mChain, mLenSet, mSetL, mFn, mGet2, miVal, miRange, miEnum, lS, lR, gVar, gTupD, gsCons, gsNil, shEnv, shIdx, inner, hideOwn, wipeE, kOf, frOf, fOut, List.getElem?_cons_zero, List.getElem?_cons_succ, List.getElem?_nil, List.set_cons_zero, List.set_cons_succ, List.map_cons, List.map_nil, List.length_cons, List.length_nil, Bool.false_eq_true, ↓reduceIte, Nat.reduceAdd, lc1, iterD, dTru, dIsaR, dIsa, dNot, cEqII, cNeII, cEqSS, cNeSS, cLtII, cLeII, cGtII, cGeII, cLtII', cLeII', bAdd, bSub, ixT0, ixL0, ixT1, ixL1, ixT2, ixL2, ixT3, biLenL, biLenT, Bool.not_true, Bool.not_false, Bool.true_and, Bool.false_and, Bool.and_true, Bool.and_false, e]
            | false =>
              cases q2 : (w == "yes") with
              | true =>
                cases ds with
                | nil => simp only [mAug, miZip, seqOf, inSignR, ninSignR, eqNil, eqNilT, inStrsT, inStrsL, biAll, biAny, true_and, and_true, and_self, Int.reducePow, Int.reduceNeg, Int.reduceToNat, rangeD, List.cons_append, List.nil_append, List.length_append, bAddL, bAddT, bMod, bNeg, biList, biListT, biTup, biTupT, biMax, isnB, isB, mDct0, sizeLine, Nat.reducePow, Nat.reduceLeDiff, cond_true, cond_false, Bool.not_eq_true, Int.cast_ofNat_Int, decide_true, decide_false, Int.reduceEq, Int.reduceLT, Int.reduceLE, Int.reduceSub, Int.reduceAdd, beq_self_eq_true, mSeq, mRet, mVar, mConst, ev1, ev2, mBool, mTru, mIfS, mIf, mSet, mAsg, mPar2, mSortSet, mSetI, mMeth, mBi, mCall, mTup, mLst, mSl, mPart, mAnd, mOr, mNotT, vAnd, vOr, mSkip, mIfs, mChain, mLenSet, mSetL, mFn, mGet2, miVal, miRange, miEnum, lS, lR, gVar, gTupD, gsCons, gsNil, shEnv, shIdx, inner, hideOwn, wipeE, kOf, frOf, fOut, List.getElem?_cons_zero, List.getElem?_cons_succ, List.getElem?_nil, List.set_cons_zero, List.set_cons_succ, List.map_cons, List.map_nil, List.length_cons, List.length_nil, Bool.false_eq_true, ↓reduceIte, Nat.reduceAdd, lc1, iterD, dTru, dIsaR, dIsa, dNot, cEqII, cNeII, cEqSS, cNeSS, cLtII, cLeII, cGtII, cGeII, cLtII', cLeII', bAdd, bSub, ixT0, ixL0, ixT1, ixL1, ixT2, ixL2, ixT3, biLenL, biLenT, Bool.not_true, Bool.not_false, Bool.true_and, Bool.false_and, Bool.and_true, Bool.and_false, hn, eqNilT, List.isEmpty_cons, List.isEmpty_nil, cEqSS, q0, q1, q2, inAO, cond, leaf]
                | cons d ds =>
                  have e : ¬ (((ds.length + 1 + 1 : Nat) : Int) = 1) := by omega
                  simp only [mAug, miZip, seqOf, inSignR, ninSignR, eqNil, eqNilT, inStrsT, inStrsL, biAll, biAny, true_and, and_true, and_self, Int.reducePow, Int.reduceNeg, Int.reduceToNat, rangeD, List.cons_append, List.nil_append, List.length_append, bAddL, bAddT, bMod, bNeg, biList, biListT, biTup, biTupT, biMax, isnB, isB, mDct0, sizeLine, Nat.reducePow, Nat.reduceLeDiff, cond_true, cond_false, Bool.not_eq_true, Int.cast_ofNat_Int, decide_true, decide_false, Int.reduceEq, Int.reduceLT, Int.reduceLE, Int.reduceSub, Int.reduceAdd, beq_self_eq_true, mSeq, mRet, mVar, mConst, ev1, ev2, mBool, mTru, mIfS, mIf, mSet, mAsg, mPar2, mSortSet, mSetI, mMeth, mBi, mCall, mTup, mLst, mSl, mPart, mAnd, mOr, mNotT, vAnd, vOr, mSkip, mIfs, mChain, mLenSet, mSetL, mFn, mGet2, miVal, miRange, miEnum, lS, lR, gVar, gTupD, gsCons, gsNil, shEnv, shIdx, inner, hideOwn, wipeE, kOf, frOf, fOut, List.getElem?_cons_zero, List.getElem?_cons_succ, List.getElem?_nil, List.set_cons_zero, List.set_cons_succ, List.map_cons, List.map_nil, List.length_cons, List.length_nil, Bool.false_eq_true, ↓reduceIte, Nat.reduceAdd, lc1, iterD, dTru, dIsaR, dIsa, dNot, cEqII, cNeII, cEqSS, cNeSS, cLtII, cLeII, cGtII, cGeII, cLtII', cLeII', bAdd, bSub, ixT0, ixL0, ixT1, ixL1, ixT2, ixL2, ixT3, biLenL, biLenT, Bool.not_true, Bool.not_false, Bool.true_and, Bool.false_and, Bool.and_true, Bool.and_false, hn, eqNilT, List.isEmpty_cons, List.isEmpty_nil, cEqSS, q0, q1, q2, inAO, cond, leaf, e]
              | false =>
                simp only [mAug, miZip, seqOf, inSignR, ninSignR, eqNil, eqNilT, inStrsT, inStrsL, biAll, biAny, true_and, and_true, and_self, Int.reducePow, Int.reduceNeg, Int.reduceToNat, rangeD, List.cons_append, List.nil_append, List.length_append, bAddL, bAddT, bMod, bNeg, biList, biListT, biTup, biTupT, biMax, isnB, isB, mDct0, sizeLine, Nat.reducePow, Nat.reduceLeDiff, cond_true, cond_false, Bool.not_eq_true, Int.cast_ofNat_Int, decide_true, decide_false, Int.reduceEq, Int.reduceLT, Int.reduceLE, Int.reduceSub, Int.reduceAdd, beq_self_eq_true, mSeq, mRet, mVar, mConst, ev1, ev2, mBool, mTru, mIfS, mIf, mSet, mAsg, mPar2, mSortSet, mSetI, mMeth, mBi, mCall, mTup, mLst, mSl, mPart, mAnd, mOr, mNotT, vAnd, vOr, mSkip, mIfs, mChain, mLenSet, mSetL, mFn, mGet2, miVal, miRange, miEnum, lS, lR, gVar, gTupD, gsCons, gsNil, shEnv, shIdx, inner, hideOwn, wipeE, kOf, frOf, fOut, List.getElem?_cons_zero, List.getElem?_cons_succ, List.getElem?_nil, List.set_cons_zero, List.set_cons_succ, List.map_cons, List.map_nil, List.length_cons, List.length_nil, Bool.false_eq_true, ↓reduceIte, Nat.reduceAdd, lc1, iterD, dTru, dIsaR, dIsa, dNot, cEqII, cNeII, cEqSS, cNeSS, cLtII, cLeII, cGtII, cGeII, cLtII', cLeII', bAdd, bSub, ixT0, ixL0, ixT1, ixL1, ixT2, ixL2, ixT3, biLenL, biLenT, Bool.not_true, Bool.not_false, Bool.true_and, Bool.false_and, Bool.and_true, Bool.and_false, hn, eqNilT, List.isEmpty_cons, cEqSS, q0, q1, q2, inAO, cond, leaf, mLc]
                rw [lcMapA (f := Bx.d) (fun b : Bx => .tuple [.str b.name, .int b.size]) (fun b _ => by simp only [mAug, miZip, seqOf, inSignR, ninSignR, eqNil, eqNilT, inStrsT, inStrsL, biAll, biAny, true_and, and_true, and_self, Int.reducePow, Int.reduceNeg, Int.reduceToNat, rangeD, List.cons_append, List.nil_append, List.length_append, bAddL, bAddT, bMod, bNeg, biList, biListT, biTup, biTupT, biMax, isnB, isB, mDct0, sizeLine, Nat.reducePow, Nat.reduceLeDiff, cond_true, cond_false, Bool.not_eq_true, Int.cast_ofNat_Int, decide_true, decide_false, Int.reduceEq, Int.reduceLT, Int.reduceLE, Int.reduceSub, Int.reduceAdd, beq_self_eq_true, mSeq, mRet, mVar, mConst, ev1, ev2, mBool, mTru, mIfS, mIf, mSet, mAsg, mPar2, mSortSet, mSetI, mMeth, mBi, mCall, mTup, mLst, mSl, mPart, mAnd, mOr, mNotT, vAnd, vOr, mSkip, mIfs, mChain, mLenSet, mSetL, mFn, mGet2, miVal, miRange, miEnum, lS, lR, gVar, gTupD, gsCons, gsNil, shEnv, shIdx, inner, hideOwn, wipeE, kOf, frOf, fOut, List.getElem?_cons_zero, List.getElem?_cons_succ, List.getElem?_nil, List.set_cons_zero, List.set_cons_succ, List.map_cons, List.map_nil, List.length_cons, List.length_nil, Bool.false_eq_true, ↓reduceIte, Nat.reduceAdd, lc1, iterD, dTru, dIsaR, dIsa, dNot, cEqII, cNeII, cEqSS, cNeSS, cLtII, cLeII, cGtII, cGeII, cLtII', cLeII', bAdd, bSub, ixT0, ixL0, ixT1, ixL1, ixT2, ixL2, ixT3, biLenL, biLenT, Bool.not_true, Bool.not_false, Bool.true_and, Bool.false_and, Bool.and_true, Bool.and_false, Bx.d])]
                have hdict := dict_s Bx.name (fun b => .int b.size) bs hd
                simp only [mAug, miZip, seqOf, inSignR, ninSignR, eqNil, eqNilT, inStrsT, inStrsL, biAll, biAny, true_and, and_true, and_self, Int.reducePow, Int.reduceNeg, Int.reduceToNat, rangeD, List.cons_append, List.nil_append, List.length_append, bAddL, bAddT, bMod, bNeg, biList, biListT, biTup, biTupT, biMax, isnB, isB, mDct0, sizeLine, Nat.reducePow, Nat.reduceLeDiff, cond_true, cond_false, Bool.not_eq_true, Int.cast_ofNat_Int, decide_true, decide_false, Int.reduceEq, Int.reduceLT, Int.reduceLE, Int.reduceSub, Int.reduceAdd, beq_self_eq_true, mSeq, mRet, mVar, mConst, ev1, ev2, mBool, mTru, mIfS, mIf, mSet, mAsg, mPar2, mSortSet, mSetI, mMeth, mBi, mCall, mTup, mLst, mSl, mPart, mAnd, mOr, mNotT, vAnd, vOr, mSkip, mIfs, mChain, mLenSet, mSetL, mFn, mGet2, miVal, miRange, miEnum, lS, lR, gVar, gTupD, gsCons, gsNil, shEnv, shIdx, inner, hideOwn, wipeE, kOf, frOf, fOut, List.getElem?_cons_zero, List.getElem?_cons_succ, List.getElem?_nil, List.set_cons_zero, List.set_cons_succ, List.map_cons, List.map_nil, List.length_cons, List.length_nil, Bool.false_eq_true, ↓reduceIte, Nat.reduceAdd, lc1, iterD, dTru, dIsaR, dIsa, dNot, cEqII, cNeII, cEqSS, cNeSS, cLtII, cLeII, cGtII, cGeII, cLtII', cLeII', bAdd, bSub, ixT0, ixL0, ixT1, ixL1, ixT2, ixL2, ixT3, biLenL, biLenT, Bool.not_true, Bool.not_false, Bool.true_and, Bool.false_and, Bool.and_true, Bool.and_false, hdict]
                match ds, hds with
                | [], _ => simp only [mAug, miZip, seqOf, inSignR, ninSignR, eqNil, eqNilT, inStrsT, inStrsL, biAll, biAny, true_and, and_true, and_self, Int.reducePow, Int.reduceNeg, Int.reduceToNat, rangeD, List.cons_append, List.nil_append, List.length_append, bAddL, bAddT, bMod, bNeg, biList, biListT, biTup, biTupT, biMax, isnB, isB, mDct0, sizeLine, Nat.reducePow, Nat.reduceLeDiff, cond_true, cond_false, Bool.not_eq_true, Int.cast_ofNat_Int, decide_true, decide_false, Int.reduceEq, Int.reduceLT, Int.reduceLE, Int.reduceSub, Int.reduceAdd, beq_self_eq_true, mSeq, mRet, mVar, mConst, ev1, ev2, mBool, mTru, mIfS, mIf, mSet, mAsg, mPar2, mSortSet, mSetI, mMeth, mBi, mCall, mTup, mLst, mSl, mPart, mAnd, mOr, mNotT, vAnd, vOr, mSkip, mIfs, mChain, mLenSet, mSetL, mFn, mGet2, miVal, miRange, miEnum, lS, lR, gVar, gTupD, gsCons, gsNil, shEnv, shIdx, inner, hideOwn, wipeE, kOf, frOf, fOut, List.getElem?_cons_zero, List.getElem?_cons_succ, List.getElem?_nil, List.set_cons_zero, List.set_cons_succ, List.map_cons, List.map_nil, List.length_cons, List.length_nil, Bool.false_eq_true, ↓reduceIte, Nat.reduceAdd, lc1, iterD, dTru, dIsaR, dIsa, dNot, cEqII, cNeII, cEqSS, cNeSS, cLtII, cLeII, cGtII, cGeII, cLtII', cLeII', bAdd, bSub, ixT0, ixL0, ixT1, ixL1, ixT2, ixL2, ixT3, biLenL, biLenT, Bool.not_true, Bool.not_false, Bool.true_and, Bool.false_and, Bool.and_true, Bool.and_false, ]
                | [a], _ => simp only [mAug, miZip, seqOf, inSignR, ninSignR, eqNil, eqNilT, inStrsT, inStrsL, biAll, biAny, true_and, and_true, and_self, Int.reducePow, Int.reduceNeg, Int.reduceToNat, rangeD, List.cons_append, List.nil_append, List.length_append, bAddL, bAddT, bMod, bNeg, biList, biListT, biTup, biTupT, biMax, isnB, isB, mDct0, sizeLine, Nat.reducePow, Nat.reduceLeDiff, cond_true, cond_false, Bool.not_eq_true, Int.cast_ofNat_Int, decide_true, decide_false, Int.reduceEq, Int.reduceLT, Int.reduceLE, Int.reduceSub, Int.reduceAdd, beq_self_eq_true, mSeq, mRet, mVar, mConst, ev1, ev2, mBool, mTru, mIfS, mIf, mSet, mAsg, mPar2, mSortSet, mSetI, mMeth, mBi, mCall, mTup, mLst, mSl, mPart, mAnd, mOr, mNotT, vAnd, vOr, mSkip, mIfs, mChain, mLenSet, mSetL, mFn, mGet2, miVal, miRange, miEnum, lS, lR, gVar, gTupD, gsCons, gsNil, shEnv, shIdx, inner, hideOwn, wipeE, kOf, frOf, fOut, List.getElem?_cons_zero, List.getElem?_cons_succ, List.getElem?_nil, List.set_cons_zero, List.set_cons_succ, List.map_cons, List.map_nil, List.length_cons, List.length_nil, Bool.false_eq_true, ↓reduceIte, Nat.reduceAdd, lc1, iterD, dTru, dIsaR, dIsa, dNot, cEqII, cNeII, cEqSS, cNeSS, cLtII, cLeII, cGtII, cGeII, cLtII', cLeII', bAdd, bSub, ixT0, ixL0, ixT1, ixL1, ixT2, ixL2, ixT3, biLenL, biLenT, Bool.not_true, Bool.not_false, Bool.true_and, Bool.false_and, Bool.and_true, Bool.and_false, ]
                | [a, b], hds =>
                  have hrows := p__law_is_rows (k + (n + 1) + 3) bs a b
                  unfold sD at hrows
                  cases q5 : (w == "among") with
                  | true =>
                    obtain ⟨z1, z2⟩ := not_am q5
                    simp only [mAug, miZip, seqOf, inSignR, ninSignR, eqNil, eqNilT, inStrsT, inStrsL, biAll, biAny, true_and, and_true, and_self, Int.reducePow, Int.reduceNeg, Int.reduceToNat, rangeD, List.cons_append, List.nil_append, List.length_append, bAddL, bAddT, bMod, bNeg, biList, biListT, biTup, biTupT, biMax, isnB, isB, mDct0, sizeLine, Nat.reducePow, Nat.reduceLeDiff, cond_true, cond_false, Bool.not_eq_true, Int.cast_ofNat_Int, decide_true, decide_false, Int.reduceEq, Int.reduceLT, Int.reduceLE, Int.reduceSub, Int.reduceAdd, beq_self_eq_true, mSeq, mRet, mVar, mConst, ev1, ev2, mBool, mTru, mIfS, mIf, mSet, mAsg, mPar2, mSortSet, mSetI, mMeth, mBi, mCall, mTup, mLst, mSl, mPart, mAnd, mOr, mNotT, vAnd, vOr, mSkip, mIfs, mChain, mLenSet, mSetL, mFn, mGet2, miVal, miRange, miEnum, lS, lR, gVar, gTupD, gsCons, gsNil, shEnv, shIdx, inner, hideOwn, wipeE, kOf, frOf, fOut, List.getElem?_cons_zero, List.getElem?_cons_succ, List.getElem?_nil, List.set_cons_zero, List.set_cons_succ, List.map_cons, List.map_nil, List.length_cons, List.length_nil, Bool.false_eq_true, ↓reduceIte, Nat.reduceAdd, lc1, iterD, dTru, dIsaR, dIsa, dNot, cEqII, cNeII, cEqSS, cNeSS, cLtII, cLeII, cGtII, cGeII, cLtII', cLeII', bAdd, bSub, ixT0, ixL0, ixT1, ixL1, ixT2, ixL2, ixT3, biLenL, biLenT, Bool.not_true, Bool.not_false, Bool.true_and, Bool.false_and, Bool.and_true, Bool.and_false, cEqSS, q5, z1, z2, hrows]
                  | false =>
                    cases a with
                    | str x =>
                      have ni := ninS bs x
                      unfold sD at ni
                      cases qk : isKn bs x with
                      | false =>
                        rw [qk] at ni
                        simp only [mAug, miZip, seqOf, inSignR, ninSignR, eqNil, eqNilT, inStrsT, inStrsL, biAll, biAny, true_and, and_true, and_self, Int.reducePow, Int.reduceNeg, Int.reduceToNat, rangeD, List.cons_append, List.nil_append, List.length_append, bAddL, bAddT, bMod, bNeg, biList, biListT, biTup, biTupT, biMax, isnB, isB, mDct0, sizeLine, Nat.reducePow, Nat.reduceLeDiff, cond_true, cond_false, Bool.not_eq_true, Int.cast_ofNat_Int, decide_true, decide_false, Int.reduceEq, Int.reduceLT, Int.reduceLE, Int.reduceSub, Int.reduceAdd, beq_self_eq_true, mSeq, mRet, mVar, mConst, ev1, ev2, mBool, mTru, mIfS, mIf, mSet, mAsg, mPar2, mSortSet, mSetI, mMeth, mBi, mCall, mTup, mLst, mSl, mPart, mAnd, mOr, mNotT, vAnd, vOr, mSkip, mIfs, mChain, mLenSet, mSetL, mFn, mGet2, miVal, miRange, miEnum, lS, lR, gVar, gTupD, gsCons, gsNil, shEnv, shIdx, inner, hideOwn, wipeE, kOf, frOf, fOut, List.getElem?_cons_zero, List.getElem?_cons_succ, List.getElem?_nil, List.set_cons_zero, List.set_cons_succ, List.map_cons, List.map_nil, List.length_cons, List.length_nil, Bool.false_eq_true, ↓reduceIte, Nat.reduceAdd, lc1, iterD, dTru, dIsaR, dIsa, dNot, cEqII, cNeII, cEqSS, cNeSS, cLtII, cLeII, cGtII, cGeII, cLtII', cLeII', bAdd, bSub, ixT0, ixL0, ixT1, ixL1, ixT2, ixL2, ixT3, biLenL, biLenT, Bool.not_true, Bool.not_false, Bool.true_and, Bool.false_and, Bool.and_true, Bool.and_false, cEqSS, q5, ni, isA, known, qk]
                        cases (w == "is") <;> cases (w == "like") <;> rfl
                      | true =>
                        rw [qk] at ni
                        have di := sD_at qk
                        unfold sD at di
                        cases q3 : (w == "is") with
                        | true =>
                          simp only [mAug, miZip, seqOf, inSignR, ninSignR, eqNil, eqNilT, inStrsT, inStrsL, biAll, biAny, true_and, and_true, and_self, Int.reducePow, Int.reduceNeg, Int.reduceToNat, rangeD, List.cons_append, List.nil_append, List.length_append, bAddL, bAddT, bMod, bNeg, biList, biListT, biTup, biTupT, biMax, isnB, isB, mDct0, sizeLine, Nat.reducePow, Nat.reduceLeDiff, cond_true, cond_false, Bool.not_eq_true, Int.cast_ofNat_Int, decide_true, decide_false, Int.reduceEq, Int.reduceLT, Int.reduceLE, Int.reduceSub, Int.reduceAdd, beq_self_eq_true, mSeq, mRet, mVar, mConst, ev1, ev2, mBool, mTru, mIfS, mIf, mSet, mAsg, mPar2, mSortSet, mSetI, mMeth, mBi, mCall, mTup, mLst, mSl, mPart, mAnd, mOr, mNotT, vAnd, vOr, mSkip, mIfs, mChain, mLenSet, mSetL, mFn, mGet2, miVal, miRange, miEnum, lS, lR, gVar, gTupD, gsCons, gsNil, shEnv, shIdx, inner, hideOwn, wipeE, kOf, frOf, fOut, List.getElem?_cons_zero, List.getElem?_cons_succ, List.getElem?_nil, List.set_cons_zero, List.set_cons_succ, List.map_cons, List.map_nil, List.length_cons, List.length_nil, Bool.false_eq_true, ↓reduceIte, Nat.reduceAdd, lc1, iterD, dTru, dIsaR, dIsa, dNot, cEqII, cNeII, cEqSS, cNeSS, cLtII, cLeII, cGtII, cGeII, cLtII', cLeII', bAdd, bSub, ixT0, ixL0, ixT1, ixL1, ixT2, ixL2, ixT3, biLenL, biLenT, Bool.not_true, Bool.not_false, Bool.true_and, Bool.false_and, Bool.and_true, Bool.and_false, cEqSS, q5, q3, ni, isA, known, qk, p__law_is_whole]
                          cases b with
                          | int i =>
                            have e1 : decide (i < szOf bs x) = decide (i ≤ szOf bs x - 1) := by
                              by_cases z : i < szOf bs x
                              · rw [decide_eq_true z, decide_eq_true (by omega)]
                              · rw [decide_eq_false z, decide_eq_false (by omega)]
                            by_cases z : (0 : Int) ≤ i
                            · simp only [mAug, miZip, seqOf, inSignR, ninSignR, eqNil, eqNilT, inStrsT, inStrsL, biAll, biAny, true_and, and_true, and_self, Int.reducePow, Int.reduceNeg, Int.reduceToNat, rangeD, List.cons_append, List.nil_append, List.length_append, bAddL, bAddT, bMod, bNeg, biList, biListT, biTup, biTupT, biMax, isnB, isB, mDct0, sizeLine, Nat.reducePow, Nat.reduceLeDiff, cond_true, cond_false, Bool.not_eq_true, Int.cast_ofNat_Int, decide_true, decide_false, Int.reduceEq, Int.reduceLT, Int.reduceLE, Int.reduceSub, Int.reduceAdd, beq_self_eq_true, mSeq, mRet, mVar, mConst, ev1, ev2, mBool, mTru, mIfS, mIf, mSet, mAsg, mPar2, mSortSet, mSetI, mMeth, mBi, mCall, mTup, mLst, mSl, mPart, mAnd, mOr, mNotT, vAnd, vOr, mSkip, mIfs, mChain, mLenSet, mSetL, mFn, mGet2, miVal, miRange, miEnum, lS, lR, gVar, gTupD, gsCons, gsNil, shEnv, shIdx, inner, hideOwn, wipeE, kOf, frOf, fOut, List.getElem?_cons_zero, List.getElem?_cons_succ, List.getElem?_nil, List.set_cons_zero, List.set_cons_succ, List.map_cons, List.map_nil, List.length_cons, List.length_nil, Bool.false_eq_true, ↓reduceIte, Nat.reduceAdd, lc1, iterD, dTru, dIsaR, dIsa, dNot, cEqII, cNeII, cEqSS, cNeSS, cLtII, cLeII, cGtII, cGeII, cLtII', cLeII', bAdd, bSub, ixT0, ixL0, ixT1, ixL1, ixT2, ixL2, ixT3, biLenL, biLenT, Bool.not_true, Bool.not_false, Bool.true_and, Bool.false_and, Bool.and_true, Bool.and_false, isWhole, isWithin, z, di, e1]
                            · simp only [mAug, miZip, seqOf, inSignR, ninSignR, eqNil, eqNilT, inStrsT, inStrsL, biAll, biAny, true_and, and_true, and_self, Int.reducePow, Int.reduceNeg, Int.reduceToNat, rangeD, List.cons_append, List.nil_append, List.length_append, bAddL, bAddT, bMod, bNeg, biList, biListT, biTup, biTupT, biMax, isnB, isB, mDct0, sizeLine, Nat.reducePow, Nat.reduceLeDiff, cond_true, cond_false, Bool.not_eq_true, Int.cast_ofNat_Int, decide_true, decide_false, Int.reduceEq, Int.reduceLT, Int.reduceLE, Int.reduceSub, Int.reduceAdd, beq_self_eq_true, mSeq, mRet, mVar, mConst, ev1, ev2, mBool, mTru, mIfS, mIf, mSet, mAsg, mPar2, mSortSet, mSetI, mMeth, mBi, mCall, mTup, mLst, mSl, mPart, mAnd, mOr, mNotT, vAnd, vOr, mSkip, mIfs, mChain, mLenSet, mSetL, mFn, mGet2, miVal, miRange, miEnum, lS, lR, gVar, gTupD, gsCons, gsNil, shEnv, shIdx, inner, hideOwn, wipeE, kOf, frOf, fOut, List.getElem?_cons_zero, List.getElem?_cons_succ, List.getElem?_nil, List.set_cons_zero, List.set_cons_succ, List.map_cons, List.map_nil, List.length_cons, List.length_nil, Bool.false_eq_true, ↓reduceIte, Nat.reduceAdd, lc1, iterD, dTru, dIsaR, dIsa, dNot, cEqII, cNeII, cEqSS, cNeSS, cLtII, cLeII, cGtII, cGeII, cLtII', cLeII', bAdd, bSub, ixT0, ixL0, ixT1, ixL1, ixT2, ixL2, ixT3, biLenL, biLenT, Bool.not_true, Bool.not_false, Bool.true_and, Bool.false_and, Bool.and_true, Bool.and_false, isWhole, isWithin, z]
                          | _ => simp only [mAug, miZip, seqOf, inSignR, ninSignR, eqNil, eqNilT, inStrsT, inStrsL, biAll, biAny, true_and, and_true, and_self, Int.reducePow, Int.reduceNeg, Int.reduceToNat, rangeD, List.cons_append, List.nil_append, List.length_append, bAddL, bAddT, bMod, bNeg, biList, biListT, biTup, biTupT, biMax, isnB, isB, mDct0, sizeLine, Nat.reducePow, Nat.reduceLeDiff, cond_true, cond_false, Bool.not_eq_true, Int.cast_ofNat_Int, decide_true, decide_false, Int.reduceEq, Int.reduceLT, Int.reduceLE, Int.reduceSub, Int.reduceAdd, beq_self_eq_true, mSeq, mRet, mVar, mConst, ev1, ev2, mBool, mTru, mIfS, mIf, mSet, mAsg, mPar2, mSortSet, mSetI, mMeth, mBi, mCall, mTup, mLst, mSl, mPart, mAnd, mOr, mNotT, vAnd, vOr, mSkip, mIfs, mChain, mLenSet, mSetL, mFn, mGet2, miVal, miRange, miEnum, lS, lR, gVar, gTupD, gsCons, gsNil, shEnv, shIdx, inner, hideOwn, wipeE, kOf, frOf, fOut, List.getElem?_cons_zero, List.getElem?_cons_succ, List.getElem?_nil, List.set_cons_zero, List.set_cons_succ, List.map_cons, List.map_nil, List.length_cons, List.length_nil, Bool.false_eq_true, ↓reduceIte, Nat.reduceAdd, lc1, iterD, dTru, dIsaR, dIsa, dNot, cEqII, cNeII, cEqSS, cNeSS, cLtII, cLeII, cGtII, cGeII, cLtII', cLeII', bAdd, bSub, ixT0, ixL0, ixT1, ixL1, ixT2, ixL2, ixT3, biLenL, biLenT, Bool.not_true, Bool.not_false, Bool.true_and, Bool.false_and, Bool.and_true, Bool.and_false, isWhole, isWithin]
                        | false =>
                          cases q4 : (w == "like") with
                          | false => simp only [mAug, miZip, seqOf, inSignR, ninSignR, eqNil, eqNilT, inStrsT, inStrsL, biAll, biAny, true_and, and_true, and_self, Int.reducePow, Int.reduceNeg, Int.reduceToNat, rangeD, List.cons_append, List.nil_append, List.length_append, bAddL, bAddT, bMod, bNeg, biList, biListT, biTup, biTupT, biMax, isnB, isB, mDct0, sizeLine, Nat.reducePow, Nat.reduceLeDiff, cond_true, cond_false, Bool.not_eq_true, Int.cast_ofNat_Int, decide_true, decide_false, Int.reduceEq, Int.reduceLT, Int.reduceLE, Int.reduceSub, Int.reduceAdd, beq_self_eq_true, mSeq, mRet, mVar, mConst, ev1, ev2, mBool, mTru, mIfS, mIf, mSet, mAsg, mPar2, mSortSet, mSetI, mMeth, mBi, mCall, mTup, mLst, mSl, mPart, mAnd, mOr, mNotT, vAnd, vOr, mSkip, mIfs, mChain, mLenSet, mSetL, mFn, mGet2, miVal, miRange, miEnum, lS, lR, gVar, gTupD, gsCons, gsNil, shEnv, shIdx, inner, hideOwn, wipeE, kOf, frOf, fOut, List.getElem?_cons_zero, List.getElem?_cons_succ, List.getElem?_nil, List.set_cons_zero, List.set_cons_succ, List.map_cons, List.map_nil, List.length_cons, List.length_nil, Bool.false_eq_true, ↓reduceIte, Nat.reduceAdd, lc1, iterD, dTru, dIsaR, dIsa, dNot, cEqII, cNeII, cEqSS, cNeSS, cLtII, cLeII, cGtII, cGeII, cLtII', cLeII', bAdd, bSub, ixT0, ixL0, ixT1, ixL1, ixT2, ixL2, ixT3, biLenL, biLenT, Bool.not_true, Bool.not_false, Bool.true_and, Bool.false_and, Bool.and_true, Bool.and_false, cEqSS, q5, q3, q4, ni, known, qk]
                          | true =>
                            simp only [mAug, miZip, seqOf, inSignR, ninSignR, eqNil, eqNilT, inStrsT, inStrsL, biAll, biAny, true_and, and_true, and_self, Int.reducePow, Int.reduceNeg, Int.reduceToNat, rangeD, List.cons_append, List.nil_append, List.length_append, bAddL, bAddT, bMod, bNeg, biList, biListT, biTup, biTupT, biMax, isnB, isB, mDct0, sizeLine, Nat.reducePow, Nat.reduceLeDiff, cond_true, cond_false, Bool.not_eq_true, Int.cast_ofNat_Int, decide_true, decide_false, Int.reduceEq, Int.reduceLT, Int.reduceLE, Int.reduceSub, Int.reduceAdd, beq_self_eq_true, mSeq, mRet, mVar, mConst, ev1, ev2, mBool, mTru, mIfS, mIf, mSet, mAsg, mPar2, mSortSet, mSetI, mMeth, mBi, mCall, mTup, mLst, mSl, mPart, mAnd, mOr, mNotT, vAnd, vOr, mSkip, mIfs, mChain, mLenSet, mSetL, mFn, mGet2, miVal, miRange, miEnum, lS, lR, gVar, gTupD, gsCons, gsNil, shEnv, shIdx, inner, hideOwn, wipeE, kOf, frOf, fOut, List.getElem?_cons_zero, List.getElem?_cons_succ, List.getElem?_nil, List.set_cons_zero, List.set_cons_succ, List.map_cons, List.map_nil, List.length_cons, List.length_nil, Bool.false_eq_true, ↓reduceIte, Nat.reduceAdd, lc1, iterD, dTru, dIsaR, dIsa, dNot, cEqII, cNeII, cEqSS, cNeSS, cLtII, cLeII, cGtII, cGeII, cLtII', cLeII', bAdd, bSub, ixT0, ixL0, ixT1, ixL1, ixT2, ixL2, ixT3, biLenL, biLenT, Bool.not_true, Bool.not_false, Bool.true_and, Bool.false_and, Bool.and_true, Bool.and_false, cEqSS, q5, q3, q4, ni, known, qk]
                            cases b with
                            | str y =>
                              have iy := inS bs y
                              unfold sD at iy
                              simp only [mAug, miZip, seqOf, inSignR, ninSignR, eqNil, eqNilT, inStrsT, inStrsL, biAll, biAny, true_and, and_true, and_self, Int.reducePow, Int.reduceNeg, Int.reduceToNat, rangeD, List.cons_append, List.nil_append, List.length_append, bAddL, bAddT, bMod, bNeg, biList, biListT, biTup, biTupT, biMax, isnB, isB, mDct0, sizeLine, Nat.reducePow, Nat.reduceLeDiff, cond_true, cond_false, Bool.not_eq_true, Int.cast_ofNat_Int, decide_true, decide_false, Int.reduceEq, Int.reduceLT, Int.reduceLE, Int.reduceSub, Int.reduceAdd, beq_self_eq_true, mSeq, mRet, mVar, mConst, ev1, ev2, mBool, mTru, mIfS, mIf, mSet, mAsg, mPar2, mSortSet, mSetI, mMeth, mBi, mCall, mTup, mLst, mSl, mPart, mAnd, mOr, mNotT, vAnd, vOr, mSkip, mIfs, mChain, mLenSet, mSetL, mFn, mGet2, miVal, miRange, miEnum, lS, lR, gVar, gTupD, gsCons, gsNil, shEnv, shIdx, inner, hideOwn, wipeE, kOf, frOf, fOut, List.getElem?_cons_zero, List.getElem?_cons_succ, List.getElem?_nil, List.set_cons_zero, List.set_cons_succ, List.map_cons, List.map_nil, List.length_cons, List.length_nil, Bool.false_eq_true, ↓reduceIte, Nat.reduceAdd, lc1, iterD, dTru, dIsaR, dIsa, dNot, cEqII, cNeII, cEqSS, cNeSS, cLtII, cLeII, cGtII, cGeII, cLtII', cLeII', bAdd, bSub, ixT0, ixL0, ixT1, ixL1, ixT2, ixL2, ixT3, biLenL, biLenT, Bool.not_true, Bool.not_false, Bool.true_and, Bool.false_and, Bool.and_true, Bool.and_false, iy, known]
                            | _ => simp only [mAug, miZip, seqOf, inSignR, ninSignR, eqNil, eqNilT, inStrsT, inStrsL, biAll, biAny, true_and, and_true, and_self, Int.reducePow, Int.reduceNeg, Int.reduceToNat, rangeD, List.cons_append, List.nil_append, List.length_append, bAddL, bAddT, bMod, bNeg, biList, biListT, biTup, biTupT, biMax, isnB, isB, mDct0, sizeLine, Nat.reducePow, Nat.reduceLeDiff, cond_true, cond_false, Bool.not_eq_true, Int.cast_ofNat_Int, decide_true, decide_false, Int.reduceEq, Int.reduceLT, Int.reduceLE, Int.reduceSub, Int.reduceAdd, beq_self_eq_true, mSeq, mRet, mVar, mConst, ev1, ev2, mBool, mTru, mIfS, mIf, mSet, mAsg, mPar2, mSortSet, mSetI, mMeth, mBi, mCall, mTup, mLst, mSl, mPart, mAnd, mOr, mNotT, vAnd, vOr, mSkip, mIfs, mChain, mLenSet, mSetL, mFn, mGet2, miVal, miRange, miEnum, lS, lR, gVar, gTupD, gsCons, gsNil, shEnv, shIdx, inner, hideOwn, wipeE, kOf, frOf, fOut, List.getElem?_cons_zero, List.getElem?_cons_succ, List.getElem?_nil, List.set_cons_zero, List.set_cons_succ, List.map_cons, List.map_nil, List.length_cons, List.length_nil, Bool.false_eq_true, ↓reduceIte, Nat.reduceAdd, lc1, iterD, dTru, dIsaR, dIsa, dNot, cEqII, cNeII, cEqSS, cNeSS, cLtII, cLeII, cGtII, cGeII, cLtII', cLeII', bAdd, bSub, ixT0, ixL0, ixT1, ixL1, ixT2, ixL2, ixT3, biLenL, biLenT, Bool.not_true, Bool.not_false, Bool.true_and, Bool.false_and, Bool.and_true, Bool.and_false, known]
                    | _ =>
                      simp only [mAug, miZip, seqOf, inSignR, ninSignR, eqNil, eqNilT, inStrsT, inStrsL, biAll, biAny, true_and, and_true, and_self, Int.reducePow, Int.reduceNeg, Int.reduceToNat, rangeD, List.cons_append, List.nil_append, List.length_append, bAddL, bAddT, bMod, bNeg, biList, biListT, biTup, biTupT, biMax, isnB, isB, mDct0, sizeLine, Nat.reducePow, Nat.reduceLeDiff, cond_true, cond_false, Bool.not_eq_true, Int.cast_ofNat_Int, decide_true, decide_false, Int.reduceEq, Int.reduceLT, Int.reduceLE, Int.reduceSub, Int.reduceAdd, beq_self_eq_true, mSeq, mRet, mVar, mConst, ev1, ev2, mBool, mTru, mIfS, mIf, mSet, mAsg, mPar2, mSortSet, mSetI, mMeth, mBi, mCall, mTup, mLst, mSl, mPart, mAnd, mOr, mNotT, vAnd, vOr, mSkip, mIfs, mChain, mLenSet, mSetL, mFn, mGet2, miVal, miRange, miEnum, lS, lR, gVar, gTupD, gsCons, gsNil, shEnv, shIdx, inner, hideOwn, wipeE, kOf, frOf, fOut, List.getElem?_cons_zero, List.getElem?_cons_succ, List.getElem?_nil, List.set_cons_zero, List.set_cons_succ, List.map_cons, List.map_nil, List.length_cons, List.length_nil, Bool.false_eq_true, ↓reduceIte, Nat.reduceAdd, lc1, iterD, dTru, dIsaR, dIsa, dNot, cEqII, cNeII, cEqSS, cNeSS, cLtII, cLeII, cGtII, cGeII, cLtII', cLeII', bAdd, bSub, ixT0, ixL0, ixT1, ixL1, ixT2, ixL2, ixT3, biLenL, biLenT, Bool.not_true, Bool.not_false, Bool.true_and, Bool.false_and, Bool.and_true, Bool.and_false, cEqSS, q5, isA, known]
                      cases (w == "is") <;> cases (w == "like") <;> rfl
                | a :: b :: c :: ds, _ =>
                  have e : ¬ (((ds.length + 1 + 1 + 1 + 1 : Nat) : Int) = 3) := by omega
                  simp only [mAug, miZip, seqOf, inSignR, ninSignR, eqNil, eqNilT, inStrsT, inStrsL, biAll, biAny, true_and, and_true, and_self, Int.reducePow, Int.reduceNeg, Int.reduceToNat, rangeD, List.cons_append, List.nil_append, List.length_append, bAddL, bAddT, bMod, bNeg, biList, biListT, biTup, biTupT, biMax, isnB, isB, mDct0, sizeLine, Nat.reducePow, Nat.reduceLeDiff, cond_true, cond_false, Bool.not_eq_true, Int.cast_ofNat_Int, decide_true, decide_false, Int.reduceEq, Int.reduceLT, Int.reduceLE, Int.reduceSub, Int.reduceAdd, beq_self_eq_true, mSeq, mRet, mVar, mConst, ev1, ev2, mBool, mTru, mIfS, mIf, mSet, mAsg, mPar2, mSortSet, mSetI, mMeth, mBi, mCall, mTup, mLst, mSl, mPart, mAnd, mOr, mNotT, vAnd, vOr, mSkip, mIfs, mChain, mLenSet, mSetL, mFn, mGet2, miVal, miRange, miEnum, lS, lR, gVar, gTupD, gsCons, gsNil, shEnv, shIdx, inner, hideOwn, wipeE, kOf, frOf, fOut, List.getElem?_cons_zero, List.getElem?_cons_succ, List.getElem?_nil, List.set_cons_zero, List.set_cons_succ, List.map_cons, List.map_nil, List.length_cons, List.length_nil, Bool.false_eq_true, ↓reduceIte, Nat.reduceAdd, lc1, iterD, dTru, dIsaR, dIsa, dNot, cEqII, cNeII, cEqSS, cNeSS, cLtII, cLeII, cGtII, cGeII, cLtII', cLeII', bAdd, bSub, ixT0, ixL0, ixT1, ixL1, ixT2, ixL2, ixT3, biLenL, biLenT, Bool.not_true, Bool.not_false, Bool.true_and, Bool.false_and, Bool.and_true, Bool.and_false, e]
        | _ => simp only [mAug, miZip, seqOf, inSignR, ninSignR, eqNil, eqNilT, inStrsT, inStrsL, biAll, biAny, true_and, and_true, and_self, Int.reducePow, Int.reduceNeg, Int.reduceToNat, rangeD, List.cons_append, List.nil_append, List.length_append, bAddL, bAddT, bMod, bNeg, biList, biListT, biTup, biTupT, biMax, isnB, isB, mDct0, sizeLine, Nat.reducePow, Nat.reduceLeDiff, cond_true, cond_false, Bool.not_eq_true, Int.cast_ofNat_Int, decide_true, decide_false, Int.reduceEq, Int.reduceLT, Int.reduceLE, Int.reduceSub, Int.reduceAdd, beq_self_eq_true, mSeq, mRet, mVar, mConst, ev1, ev2, mBool, mTru, mIfS, mIf, mSet, mAsg, mPar2, mSortSet, mSetI, mMeth, mBi, mCall, mTup, mLst, mSl, mPart, mAnd, mOr, mNotT, vAnd, vOr, mSkip, mIfs, mChain, mLenSet, mSetL, mFn, mGet2, miVal, miRange, miEnum, lS, lR, gVar, gTupD, gsCons, gsNil, shEnv, shIdx, inner, hideOwn, wipeE, kOf, frOf, fOut, List.getElem?_cons_zero, List.getElem?_cons_succ, List.getElem?_nil, List.set_cons_zero, List.set_cons_succ, List.map_cons, List.map_nil, List.length_cons, List.length_nil, Bool.false_eq_true, ↓reduceIte, Nat.reduceAdd, lc1, iterD, dTru, dIsaR, dIsa, dNot, cEqII, cNeII, cEqSS, cNeSS, cLtII, cLeII, cGtII, cGeII, cLtII', cLeII', bAdd, bSub, ixT0, ixL0, ixT1, ixL1, ixT2, ixL2, ixT3, biLenL, biLenT, Bool.not_true, Bool.not_false, Bool.true_and, Bool.false_and, Bool.and_true, Bool.and_false, hn, eqNilT, List.isEmpty_cons, cond]
    | _ => simp only [mAug, miZip, seqOf, inSignR, ninSignR, eqNil, eqNilT, inStrsT, inStrsL, biAll, biAny, true_and, and_true, and_self, Int.reducePow, Int.reduceNeg, Int.reduceToNat, rangeD, List.cons_append, List.nil_append, List.length_append, bAddL, bAddT, bMod, bNeg, biList, biListT, biTup, biTupT, biMax, isnB, isB, mDct0, sizeLine, Nat.reducePow, Nat.reduceLeDiff, cond_true, cond_false, Bool.not_eq_true, Int.cast_ofNat_Int, decide_true, decide_false, Int.reduceEq, Int.reduceLT, Int.reduceLE, Int.reduceSub, Int.reduceAdd, beq_self_eq_true, mSeq, mRet, mVar, mConst, ev1, ev2, mBool, mTru, mIfS, mIf, mSet, mAsg, mPar2, mSortSet, mSetI, mMeth, mBi, mCall, mTup, mLst, mSl, mPart, mAnd, mOr, mNotT, vAnd, vOr, mSkip, mIfs, mChain, mLenSet, mSetL, mFn, mGet2, miVal, miRange, miEnum, lS, lR, gVar, gTupD, gsCons, gsNil, shEnv, shIdx, inner, hideOwn, wipeE, kOf, frOf, fOut, List.getElem?_cons_zero, List.getElem?_cons_succ, List.getElem?_nil, List.set_cons_zero, List.set_cons_succ, List.map_cons, List.map_nil, List.length_cons, List.length_nil, Bool.false_eq_true, ↓reduceIte, Nat.reduceAdd, lc1, iterD, dTru, dIsaR, dIsa, dNot, cEqII, cNeII, cEqSS, cNeSS, cLtII, cLeII, cGtII, cGeII, cLtII', cLeII', bAdd, bSub, ixT0, ixL0, ixT1, ixL1, ixT2, ixL2, ixT3, biLenL, biLenT, Bool.not_true, Bool.not_false, Bool.true_and, Bool.false_and, Bool.and_true, Bool.and_false, hn, cond]
end K02
set_option Elab.async false
set_option linter.all false
set_option maxRecDepth 100000
set_option maxHeartbeats 1000000
set_option autoImplicit false
namespace K02
open PySem PySem.Spec PyProof.Rows L2 HC
/-! ### all worths (turned from K02) -/
structure BxOk (b : Bx) : Prop where
  lo : 1 ≤ b.size
  hi : b.size ≤ 12
def prodB (bs : List Bx) : Int := bs.foldl (fun m b => m * b.size) 1
theorem prod_pos : ∀ (bs : List Bx) (m : Int), 1 ≤ m → (∀ b ∈ bs, BxOk b) → 1 ≤ bs.foldl (fun m b => m * b.size) m ∧ bs.foldl (fun m b => m * b.size) m ≤ m * 12 ^ bs.length
  | [], m, h, _ => by simp; omega
  | b :: bs, m, h, hb => by
    have ok := hb b (List.mem_cons_self ..)
    have h1 : m * 1 ≤ m * b.size := Int.mul_le_mul_of_nonneg_left ok.lo (by omega)
    have h2 : m * b.size ≤ m * 12 := Int.mul_le_mul_of_nonneg_left ok.hi (by omega)
    obtain ⟨p1, p2⟩ := prod_pos bs (m * b.size) (by omega) fun x hx => hb x (List.mem_cons_of_mem _ hx)
    refine ⟨p1, Int.le_trans p2 ?_⟩
    rw [List.length_cons, Int.pow_succ, show m * (12 ^ bs.length * 12) = m * 12 * 12 ^ bs.length by rw [Int.mul_comm (12 ^ bs.length) 12, Int.mul_assoc]]
    exact Int.mul_le_mul_of_nonneg_right h2 (Int.pow_nonneg (by decide))
def ext (f : List (List Int)) (n : Int) : List (List Int) := f.flatMap fun ws => (List.range n.toNat).map fun (i : Nat) => ws ++ [(i : Int)]
def allB (bs : List Bx) : List (List Int) := bs.foldl (fun f b => ext f b.size) [[]]
theorem ext_len (f : List (List Int)) (n : Int) (hn : 0 ≤ n) : ((ext f n).length : Int) = f.length * n := by
  unfold ext
  induction f with
  | nil => simp
  | cons a f ih =>
    rw [List.flatMap_cons, List.length_append, List.length_map, List.length_range, List.length_cons]
    have : ((n.toNat : Nat) : Int) = n := by omega
    rw [Int.natCast_add, this, ih, Int.natCast_add, Int.add_mul]
    simp only [Int.natCast_one, Int.one_mul]
    omega
theorem ext_each {f : List (List Int)} {n : Int} {m : Nat} (h : ∀ ws ∈ f, ws.length = m) : ∀ ws ∈ ext f n, ws.length = m + 1 := fun ws hw => by
  unfold ext at hw
  obtain ⟨a, ha, hw⟩ := List.mem_flatMap.mp hw
  obtain ⟨i, _, rfl⟩ := List.mem_map.mp hw
  rw [List.length_append, h a ha]
  rfl
theorem allB_snoc (bs : List Bx) (b : Bx) : allB (bs ++ [b]) = ext (allB bs) b.size := by
  unfold allB
  rw [List.foldl_append]
  rfl
theorem prodB_snoc (bs : List Bx) (b : Bx) : prodB (bs ++ [b]) = prodB bs * b.size := by
  unfold prodB
  rw [List.foldl_append]
  rfl
theorem allB_len (bs : List Bx) : (∀ b ∈ bs, BxOk b) → ((allB bs).length : Int) = prodB bs := by
  refine snocInd (P := fun bs => (∀ b ∈ bs, BxOk b) → ((allB bs).length : Int) = prodB bs) (fun _ => rfl) (fun bs b ih h => ?_) bs
  have ok := h b (by simp)
  rw [allB_snoc, prodB_snoc, ext_len _ _ (by have := ok.lo; omega), ih fun x hx => h x (by simp [hx])]
theorem allB_each (bs : List Bx) : ∀ ws ∈ allB bs, ws.length = bs.length := by
  refine snocInd (P := fun bs => ∀ ws ∈ allB bs, ws.length = bs.length) (fun ws hw => by cases List.mem_singleton.mp hw; rfl) (fun bs b ih => ?_) bs
  rw [allB_snoc, List.length_append]
  exact ext_each ih
theorem prod_pre (bs rest : List Bx) (h : ∀ b ∈ bs ++ rest, BxOk b) : 1 ≤ prodB bs ∧ prodB bs ≤ prodB (bs ++ rest) := by
  have p1 := (prod_pos bs 1 (by decide) fun b hb => h b (by simp [hb])).1
  refine ⟨p1, ?_⟩
  have mono : ∀ (rest : List Bx) (m : Int), 1 ≤ m → (∀ b ∈ rest, BxOk b) → m ≤ rest.foldl (fun m b => m * b.size) m := fun rest => by
    induction rest with
    | nil => intro m _ _; exact Int.le_refl _
    | cons b rest ih =>
      intro m hm hb
      have ok := hb b (List.mem_cons_self ..)
      have h1 : m * 1 ≤ m * b.size := Int.mul_le_mul_of_nonneg_left ok.lo (by omega)
      exact Int.le_trans (by omega) (ih (m * b.size) (by omega) fun x hx => hb x (List.mem_cons_of_mem _ hx))
  unfold prodB
  rw [List.foldl_append]
  exact mono rest _ p1 fun b hb => h b (by simp [hb])
theorem wT_add (ws : List Int) (i : Int) (h : ws.length ≤ 1000) : dBin .Add (wTup ws) (.tuple [.int i]) = some (wTup (ws ++ [i]), false) := by
  unfold wTup
  rw [bAddT _ _ (by simp only [List.length_map, List.length_cons, List.length_nil]; omega), List.map_append]
  rfl
theorem ext_app (f g : List (List Int)) (n : Int) : ext (f ++ g) n = ext f n ++ ext g n := by
  unfold ext
  rw [List.flatMap_append]
theorem ext_one (ws : List Int) (n : Int) : (ext [ws] n).map wTup = (List.range n.toNat).map fun (i : Nat) => wTup (ws ++ [(i : Int)]) := by
  unfold ext
  rw [List.flatMap_cons, List.flatMap_nil, List.append_nil, List.map_map]
  rfl
/-- one box of the law's own list of all worths -/
theorem all_turn (k : Nat) (f : List (List Int)) (m : Nat) (hm : ∀ ws ∈ f, ws.length = m) (hm8 : m ≤ 8) (b : Bx) (ok : BxOk b) (hp : (f.length : Int) * b.size ≤ 2048) (e : HC.Env) (he : e.length = 8) (h1 : ∃ o, e[1]? = some (some ⟨.list (f.map wTup), o⟩)) (h3 : e[3]? = some (some ⟨.int b.size, false⟩)) :
    Nx (fun e2 => e2.length = 8 ∧ e2[0]? = e[0]? ∧ e2[1]? = some (some ⟨.list ((ext f b.size).map wTup), false⟩)) (b__law_all_l2 (CF k) e) := by
  obtain ⟨o, h1⟩ := h1
  obtain ⟨s0, r0, rfl, hr0⟩ := len1 he
  obtain ⟨s1, r1, rfl, hr1⟩ := len1 hr0
  obtain ⟨s2, r2, rfl, hr2⟩ := len1 hr1
  obtain ⟨s3, r3, rfl, hr3⟩ := len1 hr2
  obtain ⟨s4, r4, rfl, hr4⟩ := len1 hr3
  obtain ⟨s5, r5, rfl, hr5⟩ := len1 hr4
  obtain ⟨s6, r6, rfl, hr6⟩ := len1 hr5
  obtain ⟨s7, r7, rfl, hr7⟩ := len1 hr6
  cases len0 hr7
  simp only [List.getElem?_cons_succ, List.getElem?_cons_zero, Option.some.injEq] at h1 h3
  subst h1 h3
  have hA : b.size ≤ 16777216 := by have := ok.hi; omega
  have hB : -4611686018427387904 ≤ b.size := by have := ok.lo; omega
  unfold b__law_all_l2
  simp only [mAug, miZip, seqOf, inSignR, ninSignR, eqNil, eqNilT, inStrsT, inStrsL, biAll, biAny, true_and, and_true, and_self, Int.reducePow, Int.reduceNeg, Int.reduceToNat, rangeD, List.cons_append, List.nil_append, List.length_append, bAddL, bAddT, bMod, bNeg, biList, biListT, biTup, biTupT, biMax, isnB, isB, mDct0, sizeLine, Nat.reducePow, Nat.reduceLeDiff, cond_true, cond_false, Bool.not_eq_true, Int.cast_ofNat_Int, decide_true, decide_false, Int.reduceEq, Int.reduceLT, Int.reduceLE, Int.reduceSub, Int.reduceAdd, beq_self_eq_true, mSeq, mRet, mVar, mConst, ev1, ev2, mBool, mTru, mIfS, mIf, mSet, mAsg, mPar2, mSortSet, mSetI, mMeth, mBi, mCall, mTup, mLst, mSl, mPart, mAnd, mOr, mNotT, vAnd, vOr, mSkip, mIfs, mChain, mLenSet, mSetL, mFn, mGet2, miVal, miRange, miEnum, lS, lR, gVar, gTupD, gsCons, gsNil, shEnv, shIdx, inner, hideOwn, wipeE, kOf, frOf, fOut, List.getElem?_cons_zero, List.getElem?_cons_succ, List.getElem?_nil, List.set_cons_zero, List.set_cons_succ, List.map_cons, List.map_nil, List.length_cons, List.length_nil, Bool.false_eq_true, ↓reduceIte, Nat.reduceAdd, lc1, iterD, dTru, dIsaR, dIsa, dNot, cEqII, cNeII, cEqSS, cNeSS, cLtII, cLeII, cGtII, cGeII, cLtII', cLeII', bAdd, bSub, ixT0, ixL0, ixT1, ixL1, ixT2, ixL2, ixT3, biLenL, biLenT, Bool.not_true, Bool.not_false, Bool.true_and, Bool.false_and, Bool.and_true, Bool.and_false, ]
  obtain ⟨e', g1, g2, g3, g4⟩ := forN (f := wTup) (mi := i__law_all_l1 (CF k)) (asg := g__law_all_l1) (body := b__law_all_l1 (CF k))
    (env := [s0, some ⟨.list (f.map wTup), o⟩, s2, some ⟨.int b.size, false⟩, s4, some ⟨.list [], true⟩, s6, s7]) (e0 := [s0, some ⟨.list (f.map wTup), false⟩, s2, some ⟨.int b.size, false⟩, s4, some ⟨.list [], true⟩, s6, s7])
    (fun done e => e.length = 8 ∧ e[0]? = some s0 ∧ e[3]? = some (some ⟨.int b.size, false⟩) ∧ e[5]? = some (some ⟨.list ((ext done b.size).map wTup), true⟩)) f (by cases o <;> rfl) ⟨rfl, rfl, rfl, rfl⟩ fun ws done rest e hd ⟨he, h0, h3, h5⟩ => by
      obtain ⟨s0, r0, rfl, hr0⟩ := len1 he
      obtain ⟨s1, r1, rfl, hr1⟩ := len1 hr0
      obtain ⟨s2, r2, rfl, hr2⟩ := len1 hr1
      obtain ⟨s3, r3, rfl, hr3⟩ := len1 hr2
      obtain ⟨s4, r4, rfl, hr4⟩ := len1 hr3
      obtain ⟨s5, r5, rfl, hr5⟩ := len1 hr4
      obtain ⟨s6, r6, rfl, hr6⟩ := len1 hr5
      obtain ⟨s7, r7, rfl, hr7⟩ := len1 hr6
      cases len0 hr7
      simp only [List.getElem?_cons_succ, List.getElem?_cons_zero, Option.some.injEq] at h0 h3 h5
      subst h0 h3 h5
      have hwl := hm ws (by rw [hd]; simp)
      have l0 := ext_len f b.size (by have := ok.lo; omega)
      have l1 : (ext done b.size).length + (ext [ws] b.size).length ≤ 2048 := by
        have : (ext f b.size).length = (ext done b.size).length + (ext [ws] b.size).length + (ext rest b.size).length := by
          rw [hd, show done ++ ws :: rest = (done ++ [ws]) ++ rest by simp, ext_app, ext_app, List.length_append, List.length_append]
        omega
      unfold b__law_all_l1
      simp only [mAug, miZip, seqOf, inSignR, ninSignR, eqNil, eqNilT, inStrsT, inStrsL, biAll, biAny, true_and, and_true, and_self, Int.reducePow, Int.reduceNeg, Int.reduceToNat, rangeD, List.cons_append, List.nil_append, List.length_append, bAddL, bAddT, bMod, bNeg, biList, biListT, biTup, biTupT, biMax, isnB, isB, mDct0, sizeLine, Nat.reducePow, Nat.reduceLeDiff, cond_true, cond_false, Bool.not_eq_true, Int.cast_ofNat_Int, decide_true, decide_false, Int.reduceEq, Int.reduceLT, Int.reduceLE, Int.reduceSub, Int.reduceAdd, beq_self_eq_true, mSeq, mRet, mVar, mConst, ev1, ev2, mBool, mTru, mIfS, mIf, mSet, mAsg, mPar2, mSortSet, mSetI, mMeth, mBi, mCall, mTup, mLst, mSl, mPart, mAnd, mOr, mNotT, vAnd, vOr, mSkip, mIfs, mChain, mLenSet, mSetL, mFn, mGet2, miVal, miRange, miEnum, lS, lR, gVar, gTupD, gsCons, gsNil, shEnv, shIdx, inner, hideOwn, wipeE, kOf, frOf, fOut, List.getElem?_cons_zero, List.getElem?_cons_succ, List.getElem?_nil, List.set_cons_zero, List.set_cons_succ, List.map_cons, List.map_nil, List.length_cons, List.length_nil, Bool.false_eq_true, ↓reduceIte, Nat.reduceAdd, lc1, iterD, dTru, dIsaR, dIsa, dNot, cEqII, cNeII, cEqSS, cNeSS, cLtII, cLeII, cGtII, cGeII, cLtII', cLeII', bAdd, bSub, ixT0, ixL0, ixT1, ixL1, ixT2, ixL2, ixT3, biLenL, biLenT, Bool.not_true, Bool.not_false, Bool.true_and, Bool.false_and, Bool.and_true, Bool.and_false, NxA, mLc, hA, hB]
      rw [lcMapA (f := fun i : Nat => PyData.int i) (fun i => wTup (ws ++ [(i : Int)])) (fun i _ => by simp only [mAug, miZip, seqOf, inSignR, ninSignR, eqNil, eqNilT, inStrsT, inStrsL, biAll, biAny, true_and, and_true, and_self, Int.reducePow, Int.reduceNeg, Int.reduceToNat, rangeD, List.cons_append, List.nil_append, List.length_append, bAddL, bAddT, bMod, bNeg, biList, biListT, biTup, biTupT, biMax, isnB, isB, mDct0, sizeLine, Nat.reducePow, Nat.reduceLeDiff, cond_true, cond_false, Bool.not_eq_true, Int.cast_ofNat_Int, decide_true, decide_false, Int.reduceEq, Int.reduceLT, Int.reduceLE, Int.reduceSub, Int.reduceAdd, beq_self_eq_true, mSeq, mRet, mVar, mConst, ev1, ev2, mBool, mTru, mIfS, mIf, mSet, mAsg, mPar2, mSortSet, mSetI, mMeth, mBi, mCall, mTup, mLst, mSl, mPart, mAnd, mOr, mNotT, vAnd, vOr, mSkip, mIfs, mChain, mLenSet, mSetL, mFn, mGet2, miVal, miRange, miEnum, lS, lR, gVar, gTupD, gsCons, gsNil, shEnv, shIdx, inner, hideOwn, wipeE, kOf, frOf, fOut, List.getElem?_cons_zero, List.getElem?_cons_succ, List.getElem?_nil, List.set_cons_zero, List.set_cons_succ, List.map_cons, List.map_nil, List.length_cons, List.length_nil, Bool.false_eq_true, ↓reduceIte, Nat.reduceAdd, lc1, iterD, dTru, dIsaR, dIsa, dNot, cEqII, cNeII, cEqSS, cNeSS, cLtII, cLeII, cGtII, cGeII, cLtII', cLeII', bAdd, bSub, ixT0, ixL0, ixT1, ixL1, ixT2, ixL2, ixT3, biLenL, biLenT, Bool.not_true, Bool.not_false, Bool.true_and, Bool.false_and, Bool.and_true, Bool.and_false, wT_add ws i (by omega)])]
      rw [← ext_one]
      have hadd : dBin .Add (.list ((ext done b.size).map wTup)) (.list ((ext [ws] b.size).map wTup)) = some (.list ((ext (done ++ [ws]) b.size).map wTup), true) := by
        rw [bAddL _ _ (by rw [List.length_map, List.length_map]; omega), ext_app, List.map_append]
      simp only [mAug, miZip, seqOf, inSignR, ninSignR, eqNil, eqNilT, inStrsT, inStrsL, biAll, biAny, true_and, and_true, and_self, Int.reducePow, Int.reduceNeg, Int.reduceToNat, rangeD, List.cons_append, List.nil_append, List.length_append, bAddL, bAddT, bMod, bNeg, biList, biListT, biTup, biTupT, biMax, isnB, isB, mDct0, sizeLine, Nat.reducePow, Nat.reduceLeDiff, cond_true, cond_false, Bool.not_eq_true, Int.cast_ofNat_Int, decide_true, decide_false, Int.reduceEq, Int.reduceLT, Int.reduceLE, Int.reduceSub, Int.reduceAdd, beq_self_eq_true, mSeq, mRet, mVar, mConst, ev1, ev2, mBool, mTru, mIfS, mIf, mSet, mAsg, mPar2, mSortSet, mSetI, mMeth, mBi, mCall, mTup, mLst, mSl, mPart, mAnd, mOr, mNotT, vAnd, vOr, mSkip, mIfs, mChain, mLenSet, mSetL, mFn, mGet2, miVal, miRange, miEnum, lS, lR, gVar, gTupD, gsCons, gsNil, shEnv, shIdx, inner, hideOwn, wipeE, kOf, frOf, fOut, List.getElem?_cons_zero, List.getElem?_cons_succ, List.getElem?_nil, List.set_cons_zero, List.set_cons_succ, List.map_cons, List.map_nil, List.length_cons, List.length_nil, Bool.false_eq_true, ↓reduceIte, Nat.reduceAdd, lc1, iterD, dTru, dIsaR, dIsa, dNot, cEqII, cNeII, cEqSS, cNeSS, cLtII, cLeII, cGtII, cGeII, cLtII', cLeII', bAdd, bSub, ixT0, ixL0, ixT1, ixL1, ixT2, ixL2, ixT3, biLenL, biLenT, Bool.not_true, Bool.not_false, Bool.true_and, Bool.false_and, Bool.and_true, Bool.and_false, hadd, NxI]
  obtain ⟨g4, g5⟩ := g4
  obtain ⟨s0, r0, rfl, hr0⟩ := len1 g2
  obtain ⟨s1, r1, rfl, hr1⟩ := len1 hr0
  obtain ⟨s2, r2, rfl, hr2⟩ := len1 hr1
  obtain ⟨s3, r3, rfl, hr3⟩ := len1 hr2
  obtain ⟨s4, r4, rfl, hr4⟩ := len1 hr3
  obtain ⟨s5, r5, rfl, hr5⟩ := len1 hr4
  obtain ⟨s6, r6, rfl, hr6⟩ := len1 hr5
  obtain ⟨s7, r7, rfl, hr7⟩ := len1 hr6
  cases len0 hr7
  simp only [List.getElem?_cons_succ, List.getElem?_cons_zero, Option.some.injEq] at g3 g4 g5
  subst g3 g4 g5
  rw [g1]
  simp only [mAug, miZip, seqOf, inSignR, ninSignR, eqNil, eqNilT, inStrsT, inStrsL, biAll, biAny, true_and, and_true, and_self, Int.reducePow, Int.reduceNeg, Int.reduceToNat, rangeD, List.cons_append, List.nil_append, List.length_append, bAddL, bAddT, bMod, bNeg, biList, biListT, biTup, biTupT, biMax, isnB, isB, mDct0, sizeLine, Nat.reducePow, Nat.reduceLeDiff, cond_true, cond_false, Bool.not_eq_true, Int.cast_ofNat_Int, decide_true, decide_false, Int.reduceEq, Int.reduceLT, Int.reduceLE, Int.reduceSub, Int.reduceAdd, beq_self_eq_true, mSeq, mRet, mVar, mConst, ev1, ev2, mBool, mTru, mIfS, mIf, mSet, mAsg, mPar2, mSortSet, mSetI, mMeth, mBi, mCall, mTup, mLst, mSl, mPart, mAnd, mOr, mNotT, vAnd, vOr, mSkip, mIfs, mChain, mLenSet, mSetL, mFn, mGet2, miVal, miRange, miEnum, lS, lR, gVar, gTupD, gsCons, gsNil, shEnv, shIdx, inner, hideOwn, wipeE, kOf, frOf, fOut, List.getElem?_cons_zero, List.getElem?_cons_succ, List.getElem?_nil, List.set_cons_zero, List.set_cons_succ, List.map_cons, List.map_nil, List.length_cons, List.length_nil, Bool.false_eq_true, ↓reduceIte, Nat.reduceAdd, lc1, iterD, dTru, dIsaR, dIsa, dNot, cEqII, cNeII, cEqSS, cNeSS, cLtII, cLeII, cGtII, cGeII, cLtII', cLeII', bAdd, bSub, ixT0, ixL0, ixT1, ixL1, ixT2, ixL2, ixT3, biLenL, biLenT, Bool.not_true, Bool.not_false, Bool.true_and, Bool.false_and, Bool.and_true, Bool.and_false, NxI]
theorem p__law_all (k : Nat) (bs : List Bx) (hb : ∀ b ∈ bs, BxOk b) (hp : prodB bs ≤ 2048) (hl : bs.length ≤ 8) : ∃ fr, CF (k + 1) "_law_all" [.list (bs.map Bx.d)] = some (.list ((allB bs).map wTup), fr) := by
  rw [c__law_all]
  unfold b__law_all
  simp only [mAug, miZip, seqOf, inSignR, ninSignR, eqNil, eqNilT, inStrsT, inStrsL, biAll, biAny, true_and, and_true, and_self, Int.reducePow, Int.reduceNeg, Int.reduceToNat, rangeD, List.cons_append, List.nil_append, List.length_append, bAddL, bAddT, bMod, bNeg, biList, biListT, biTup, biTupT, biMax, isnB, isB, mDct0, sizeLine, Nat.reducePow, Nat.reduceLeDiff, cond_true, cond_false, Bool.not_eq_true, Int.cast_ofNat_Int, decide_true, decide_false, Int.reduceEq, Int.reduceLT, Int.reduceLE, Int.reduceSub, Int.reduceAdd, beq_self_eq_true, mSeq, mRet, mVar, mConst, ev1, ev2, mBool, mTru, mIfS, mIf, mSet, mAsg, mPar2, mSortSet, mSetI, mMeth, mBi, mCall, mTup, mLst, mSl, mPart, mAnd, mOr, mNotT, vAnd, vOr, mSkip, mIfs, mChain, mLenSet, mSetL, mFn, mGet2, miVal, miRange, miEnum, lS, lR, gVar, gTupD, gsCons, gsNil, shEnv, shIdx, inner, hideOwn, wipeE, kOf, frOf, fOut, List.getElem?_cons_zero, List.getElem?_cons_succ, List.getElem?_nil, List.set_cons_zero, List.set_cons_succ, List.map_cons, List.map_nil, List.length_cons, List.length_nil, Bool.false_eq_true, ↓reduceIte, Nat.reduceAdd, lc1, iterD, dTru, dIsaR, dIsa, dNot, cEqII, cNeII, cEqSS, cNeSS, cLtII, cLeII, cGtII, cGeII, cLtII', cLeII', bAdd, bSub, ixT0, ixL0, ixT1, ixL1, ixT2, ixL2, ixT3, biLenL, biLenT, Bool.not_true, Bool.not_false, Bool.true_and, Bool.false_and, Bool.and_true, Bool.and_false, ]
  obtain ⟨e', g1, g2, o, g3⟩ := forN (f := Bx.d) (mi := i__law_all_l2 (CF k)) (asg := g__law_all_l2) (body := b__law_all_l2 (CF k))
    (env := [some ⟨.list (bs.map Bx.d), false⟩, some ⟨.list [.tuple []], true⟩, none, none, none, none, none, none]) (fun done e => e.length = 8 ∧ ∃ o, e[1]? = some (some ⟨.list ((allB done).map wTup), o⟩)) bs rfl ⟨rfl, _, rfl⟩ fun b done rest e hd ⟨he, o, h1⟩ => by
      obtain ⟨s0, r0, rfl, hr0⟩ := len1 he
      obtain ⟨s1, r1, rfl, hr1⟩ := len1 hr0
      obtain ⟨s2, r2, rfl, hr2⟩ := len1 hr1
      obtain ⟨s3, r3, rfl, hr3⟩ := len1 hr2
      obtain ⟨s4, r4, rfl, hr4⟩ := len1 hr3
      obtain ⟨s5, r5, rfl, hr5⟩ := len1 hr4
      obtain ⟨s6, r6, rfl, hr6⟩ := len1 hr5
      obtain ⟨s7, r7, rfl, hr7⟩ := len1 hr6
      cases len0 hr7
      simp only [List.getElem?_cons_succ, List.getElem?_cons_zero, Option.some.injEq] at h1
      subst h1
      have ok := hb b (by rw [hd]; simp)
      have hd2 : bs = (done ++ [b]) ++ rest := by rw [hd, List.append_assoc]; rfl
      have pp := prod_pre (done ++ [b]) rest (by rw [← hd2]; exact hb)
      rw [← hd2] at pp
      have al := allB_len done fun x hx => hb x (by rw [hd]; exact List.mem_append_left _ hx)
      have hdl : done.length ≤ 8 := by
        have := congrArg List.length hd
        rw [List.length_append, List.length_cons] at this
        omega
      have t := all_turn k (allB done) done.length (allB_each done) hdl b ok (by rw [al, ← prodB_snoc]; omega) [s0, some ⟨.list ((allB done).map wTup), o⟩, some ⟨.str b.name, false⟩, some ⟨.int b.size, false⟩, some ⟨.str b.kind, false⟩, s5, s6, s7] rfl ⟨_, rfl⟩ rfl
      obtain ⟨e2, t1, t2, t3, t4⟩ := t.ex
      simp only [mAug, miZip, seqOf, inSignR, ninSignR, eqNil, eqNilT, inStrsT, inStrsL, biAll, biAny, true_and, and_true, and_self, Int.reducePow, Int.reduceNeg, Int.reduceToNat, rangeD, List.cons_append, List.nil_append, List.length_append, bAddL, bAddT, bMod, bNeg, biList, biListT, biTup, biTupT, biMax, isnB, isB, mDct0, sizeLine, Nat.reducePow, Nat.reduceLeDiff, cond_true, cond_false, Bool.not_eq_true, Int.cast_ofNat_Int, decide_true, decide_false, Int.reduceEq, Int.reduceLT, Int.reduceLE, Int.reduceSub, Int.reduceAdd, beq_self_eq_true, mSeq, mRet, mVar, mConst, ev1, ev2, mBool, mTru, mIfS, mIf, mSet, mAsg, mPar2, mSortSet, mSetI, mMeth, mBi, mCall, mTup, mLst, mSl, mPart, mAnd, mOr, mNotT, vAnd, vOr, mSkip, mIfs, mChain, mLenSet, mSetL, mFn, mGet2, miVal, miRange, miEnum, lS, lR, gVar, gTupD, gsCons, gsNil, shEnv, shIdx, inner, hideOwn, wipeE, kOf, frOf, fOut, List.getElem?_cons_zero, List.getElem?_cons_succ, List.getElem?_nil, List.set_cons_zero, List.set_cons_succ, List.map_cons, List.map_nil, List.length_cons, List.length_nil, Bool.false_eq_true, ↓reduceIte, Nat.reduceAdd, lc1, iterD, dTru, dIsaR, dIsa, dNot, cEqII, cNeII, cEqSS, cNeSS, cLtII, cLeII, cGtII, cGeII, cLtII', cLeII', bAdd, bSub, ixT0, ixL0, ixT1, ixL1, ixT2, ixL2, ixT3, biLenL, biLenT, Bool.not_true, Bool.not_false, Bool.true_and, Bool.false_and, Bool.and_true, Bool.and_false, NxA, Bx.d]
      rw [t1, NxI, allB_snoc]
      exact ⟨t2, _, t4⟩
  obtain ⟨s0, r0, rfl, hr0⟩ := len1 g2
  obtain ⟨s1, r1, rfl, hr1⟩ := len1 hr0
  obtain ⟨s2, r2, rfl, hr2⟩ := len1 hr1
  obtain ⟨s3, r3, rfl, hr3⟩ := len1 hr2
  obtain ⟨s4, r4, rfl, hr4⟩ := len1 hr3
  obtain ⟨s5, r5, rfl, hr5⟩ := len1 hr4
  obtain ⟨s6, r6, rfl, hr6⟩ := len1 hr5
  obtain ⟨s7, r7, rfl, hr7⟩ := len1 hr6
  cases len0 hr7
  simp only [List.getElem?_cons_succ, List.getElem?_cons_zero, Option.some.injEq] at g3
  subst g3
  rw [g1]
  cases o <;> (simp only [mAug, miZip, seqOf, inSignR, ninSignR, eqNil, eqNilT, inStrsT, inStrsL, biAll, biAny, true_and, and_true, and_self, Int.reducePow, Int.reduceNeg, Int.reduceToNat, rangeD, List.cons_append, List.nil_append, List.length_append, bAddL, bAddT, bMod, bNeg, biList, biListT, biTup, biTupT, biMax, isnB, isB, mDct0, sizeLine, Nat.reducePow, Nat.reduceLeDiff, cond_true, cond_false, Bool.not_eq_true, Int.cast_ofNat_Int, decide_true, decide_false, Int.reduceEq, Int.reduceLT, Int.reduceLE, Int.reduceSub, Int.reduceAdd, beq_self_eq_true, mSeq, mRet, mVar, mConst, ev1, ev2, mBool, mTru, mIfS, mIf, mSet, mAsg, mPar2, mSortSet, mSetI, mMeth, mBi, mCall, mTup, mLst, mSl, mPart, mAnd, mOr, mNotT, vAnd, vOr, mSkip, mIfs, mChain, mLenSet, mSetL, mFn, mGet2, miVal, miRange, miEnum, lS, lR, gVar, gTupD, gsCons, gsNil, shEnv, shIdx, inner, hideOwn, wipeE, kOf, frOf, fOut, List.getElem?_cons_zero, List.getElem?_cons_succ, List.getElem?_nil, List.set_cons_zero, List.set_cons_succ, List.map_cons, List.map_nil, List.length_cons, List.length_nil, Bool.false_eq_true, ↓reduceIte, Nat.reduceAdd, lc1, iterD, dTru, dIsaR, dIsa, dNot, cEqII, cNeII, cEqSS, cNeSS, cLtII, cLeII, cGtII, cGeII, cLtII', cLeII', bAdd, bSub, ixT0, ixL0, ixT1, ixL1, ixT2, ixL2, ixT3, biLenL, biLenT, Bool.not_true, Bool.not_false, Bool.true_and, Bool.false_and, Bool.and_true, Bool.and_false, ]; exact ⟨_, rfl⟩)
theorem p__law_odd (k : Nat) (d : Int) : ∃ o, o ∈ oddL ∧ CF (k + 1) "_law_odd" [.int d] = some (o, false) := by
  have h30 : dBin .Pow (.int 10) (.int 30) = some (.int 1000000000000000000000000000000, false) := by kernel_rfl
  obtain ⟨o, h1, _, h2⟩ := ixMod (ds := oddL) (i := d) (by decide)
  refine ⟨o, h1, ?_⟩
  rw [c__law_odd]
  unfold b__law_odd
  simp only [mAug, miZip, seqOf, inSignR, ninSignR, eqNil, eqNilT, inStrsT, inStrsL, biAll, biAny, true_and, and_true, and_self, Int.reducePow, Int.reduceNeg, Int.reduceToNat, rangeD, List.cons_append, List.nil_append, List.length_append, bAddL, bAddT, bMod, bNeg, biList, biListT, biTup, biTupT, biMax, isnB, isB, mDct0, sizeLine, Nat.reducePow, Nat.reduceLeDiff, cond_true, cond_false, Bool.not_eq_true, Int.cast_ofNat_Int, decide_true, decide_false, Int.reduceEq, Int.reduceLT, Int.reduceLE, Int.reduceSub, Int.reduceAdd, beq_self_eq_true, mSeq, mRet, mVar, mConst, ev1, ev2, mBool, mTru, mIfS, mIf, mSet, mAsg, mPar2, mSortSet, mSetI, mMeth, mBi, mCall, mTup, mLst, mSl, mPart, mAnd, mOr, mNotT, vAnd, vOr, mSkip, mIfs, mChain, mLenSet, mSetL, mFn, mGet2, miVal, miRange, miEnum, lS, lR, gVar, gTupD, gsCons, gsNil, shEnv, shIdx, inner, hideOwn, wipeE, kOf, frOf, fOut, List.getElem?_cons_zero, List.getElem?_cons_succ, List.getElem?_nil, List.set_cons_zero, List.set_cons_succ, List.map_cons, List.map_nil, List.length_cons, List.length_nil, Bool.false_eq_true, ↓reduceIte, Nat.reduceAdd, lc1, iterD, dTru, dIsaR, dIsa, dNot, cEqII, cNeII, cEqSS, cNeSS, cLtII, cLeII, cGtII, cGeII, cLtII', cLeII', bAdd, bSub, ixT0, ixL0, ixT1, ixL1, ixT2, ixL2, ixT3, biLenL, biLenT, Bool.not_true, Bool.not_false, Bool.true_and, Bool.false_and, Bool.and_true, Bool.and_false, h30]
  unfold oddL at h2
  simp only [List.length_cons, List.length_nil, Nat.reduceAdd, Int.cast_ofNat_Int] at h2
  simp only [mAug, miZip, seqOf, inSignR, ninSignR, eqNil, eqNilT, inStrsT, inStrsL, biAll, biAny, true_and, and_true, and_self, Int.reducePow, Int.reduceNeg, Int.reduceToNat, rangeD, List.cons_append, List.nil_append, List.length_append, bAddL, bAddT, bMod, bNeg, biList, biListT, biTup, biTupT, biMax, isnB, isB, mDct0, sizeLine, Nat.reducePow, Nat.reduceLeDiff, cond_true, cond_false, Bool.not_eq_true, Int.cast_ofNat_Int, decide_true, decide_false, Int.reduceEq, Int.reduceLT, Int.reduceLE, Int.reduceSub, Int.reduceAdd, beq_self_eq_true, mSeq, mRet, mVar, mConst, ev1, ev2, mBool, mTru, mIfS, mIf, mSet, mAsg, mPar2, mSortSet, mSetI, mMeth, mBi, mCall, mTup, mLst, mSl, mPart, mAnd, mOr, mNotT, vAnd, vOr, mSkip, mIfs, mChain, mLenSet, mSetL, mFn, mGet2, miVal, miRange, miEnum, lS, lR, gVar, gTupD, gsCons, gsNil, shEnv, shIdx, inner, hideOwn, wipeE, kOf, frOf, fOut, List.getElem?_cons_zero, List.getElem?_cons_succ, List.getElem?_nil, List.set_cons_zero, List.set_cons_succ, List.map_cons, List.map_nil, List.length_cons, List.length_nil, Bool.false_eq_true, ↓reduceIte, Nat.reduceAdd, lc1, iterD, dTru, dIsaR, dIsa, dNot, cEqII, cNeII, cEqSS, cNeSS, cLtII, cLeII, cGtII, cGeII, cLtII', cLeII', bAdd, bSub, ixT0, ixL0, ixT1, ixL1, ixT2, ixL2, ixT3, biLenL, biLenT, Bool.not_true, Bool.not_false, Bool.true_and, Bool.false_and, Bool.and_true, Bool.and_false, h2]
end K02
set_option Elab.async false
set_option linter.all false
set_option maxRecDepth 100000
set_option maxHeartbeats 1000000
set_option autoImplicit false
namespace K02
open PySem PySem.Spec PyProof.Rows L2 HC
/-! ### trees of conditions -/
def Tr (bs : List Bx) : Nat → D → Prop
  | 0, t => ∃ (w : Str) (ds : List D), t = .tuple (.str w :: ds) ∧ (w == "not") = false ∧ ((w == "and") || (w == "or")) = false ∧ leaf bs w ds = true ∧ ds.length ≤ 2 ∧ small t = true ∧ Shw 4 240 t
  | n + 1, t => Tr bs n t ∨ (∃ x, t = .tuple [.str "not", x] ∧ Tr bs n x) ∨ ∃ (w : Str) (ps : List D), (w = "and" ∨ w = "or") ∧ t = .tuple [.str w, .tuple ps] ∧ 1 ≤ ps.length ∧ ps.length ≤ 3 ∧ ∀ p ∈ ps, Tr bs n p
def sz : Nat → Nat
  | 0 => 240
  | n + 1 => 3 * sz n + 24
theorem cond_mono (bs : List Bx) : ∀ (n : Nat) (t : D), cond bs n t = true → cond bs (n + 1) t = true
  | 0, t, h => by cases h
  | n + 1, t, h => by
    cases t with
    | tuple ds =>
      cases ds with
      | nil => cases h
      | cons w ds =>
        cases w with
        | str w =>
          simp only [cond] at h ⊢
          cases q0 : (w == "not") with
          | true =>
            rw [q0] at h
            simp only [cond_true] at h ⊢
            match ds, h with
            | [x], h => exact cond_mono bs n x h
          | false =>
            rw [q0] at h
            simp only [cond_false] at h ⊢
            cases q1 : ((w == "and") || (w == "or")) with
            | true =>
              rw [q1] at h
              simp only [cond_true] at h ⊢
              match ds, h with
              | [.tuple ps], h =>
                simp only [Bool.and_eq_true] at h ⊢
                exact ⟨h.1, List.all_eq_true.mpr fun p hp => cond_mono bs n p (List.all_eq_true.mp h.2 p hp)⟩
            | false =>
              rw [q1] at h
              exact h
        | _ => cases h
    | _ => cases h
theorem tr_cond (bs : List Bx) : ∀ (n : Nat) (t : D), Tr bs n t → cond bs (n + 1) t = true
  | 0, t, h => by
    obtain ⟨w, ds, rfl, h1, h2, h3, _⟩ := h
    simp only [cond, h1, h2, cond_false]
    exact h3
  | n + 1, t, h => by
    rcases h with h | ⟨x, rfl, h⟩ | ⟨w, ps, hw, rfl, h1, h2, h3⟩
    · exact cond_mono bs _ t (tr_cond bs n t h)
    · have e : (("not" : Str) == "not") = true := beq_self_eq_true _
      simp only [cond, e, cond_true]
      exact tr_cond bs n x h
    · have e0 : (w == "not") = false := by rcases hw with rfl | rfl <;> decide +kernel
      have e1 : ((w == "and") || (w == "or")) = true := by rcases hw with rfl | rfl <;> decide +kernel
      unfold cond
      rw [e0, e1]
      simp only [cond_false, cond_true, Bool.and_eq_true]
      exact ⟨⟨decide_eq_true h1, decide_eq_true (by omega)⟩, List.all_eq_true.mpr fun p hp => tr_cond bs n p (h3 p hp)⟩
theorem tr_small (bs : List Bx) : ∀ (n : Nat) (t : D), Tr bs n t → small t = true
  | 0, t, h => by
    obtain ⟨w, ds, rfl, h1, h2, h3, h4, h5, _⟩ := h
    exact h5
  | n + 1, t, h => by
    rcases h with h | ⟨x, rfl, h⟩ | ⟨w, ps, hw, rfl, h1, h2, h3⟩
    · exact tr_small bs n t h
    · exact small_mk (by simp) fun d hd => by
        rcases List.mem_cons.mp hd with rfl | hd
        · rfl
        · rw [List.mem_singleton.mp hd]; exact tr_small bs n x h
    · exact small_mk (by simp) fun d hd => by
        rcases List.mem_cons.mp hd with rfl | hd
        · rfl
        · rw [List.mem_singleton.mp hd]
          exact small_mk (by omega) fun p hp => tr_small bs n p (h3 p hp)
theorem tr_shw (bs : List Bx) : ∀ (n : Nat) (t : D), Tr bs n t → Shw (2 * n + 4) (sz n) t
  | 0, t, h => by
    obtain ⟨w, ds, rfl, h1, h2, h3, h4, h5, h6⟩ := h
    exact h6
  | n + 1, t, h => by
    rcases h with h | ⟨x, rfl, h⟩ | ⟨w, ps, hw, rfl, h1, h2, h3⟩
    · exact (tr_shw bs n t h).mono (by omega) (by simp only [sz]; omega)
    · have s1 : Shw (2 * n + 4) 8 (.str "not") := (Shw.of_b (a := 0) (b := 8) (by decide +kernel)).mono (by omega) (Nat.le_refl _)
      exact (Shw.pair s1 (tr_shw bs n x h)).mono (by omega) (by simp only [sz]; omega)
    · have s1 : Shw (2 * n + 5) 8 (.str w) := by
        rcases hw with rfl | rfl <;> exact (Shw.of_b (a := 0) (b := 8) (by decide +kernel)).mono (by omega) (Nat.le_refl _)
      have s2 := Shw.tuple (Shws.all fun p hp => tr_shw bs n p (h3 p hp))
      have hl : ps.length * (sz n + 2) ≤ 3 * (sz n + 2) := Nat.mul_le_mul_right _ h2
      exact (Shw.pair s1 s2).mono (by omega) (by simp only [sz]; omega)
end K02
set_option Elab.async false
set_option linter.all false
set_option maxRecDepth 100000
set_option maxHeartbeats 1000000
set_option autoImplicit false
namespace K02
open PySem PySem.Spec PyProof.Rows L2 HC
/-! ### a drawn condition -/
theorem box_at (bs : List Bx) (x : Int) (h : 0 < bs.length) : ∃ b, b ∈ bs ∧ dIx (.list (bs.map Bx.d)) (.int (x % (bs.length : Int))) = some (b.d, false) := by
  obtain ⟨d, h1, _, h2⟩ := ixMod (ds := bs.map Bx.d) (i := x) (by rw [List.length_map]; exact h)
  obtain ⟨b, hb, rfl⟩ := List.mem_map.mp h1
  rw [List.length_map] at h2
  exact ⟨b, hb, h2⟩
theorem sz_at {bs : List Bx} (ok : BsOk bs) {b : Bx} (hb : b ∈ bs) : isKn bs b.name = true ∧ szOf bs b.name = b.size := by
  obtain ⟨i, hi⟩ := List.getElem?_of_mem hb
  have a := (ok.dist i b hi).fd
  exact ⟨List.any_eq_true.mpr ⟨b, hb, beq_self_eq_true _⟩, by unfold szOf; rw [a]⟩
def rowT (bs : List Bx) (x y t : Int) : List Int := bs.map fun b => (x + t * y) % b.size
theorem filt_drop {bs : List Bx} (h : (bs.map Bx.name).Nodup) (j : Nat) (f : Bx → D) : (bs.filterMap fun b => if (((bs.drop j).map Bx.name).any fun n => n == b.name) = true then some (f b) else none) = (bs.drop j).map f := by
  have e : bs = bs.take j ++ bs.drop j := (List.take_append_drop j bs).symm
  generalize bs.drop j = ys at *
  generalize bs.take j = xs at *
  subst e
  rw [List.filterMap_append]
  rw [List.map_append, List.nodup_append] at h
  have e1 : (xs.filterMap fun b => if ((ys.map Bx.name).any fun n => n == b.name) = true then some (f b) else none) = [] := by
    rw [List.filterMap_eq_nil_iff]
    intro b hb
    rw [if_neg]
    intro z
    obtain ⟨n, hn, z⟩ := List.any_eq_true.mp z
    exact h.2.2 b.name (List.mem_map_of_mem hb) n hn (eq_of_beq z).symm
  have e2 : ∀ zs : List Bx, (∀ z ∈ zs, z ∈ ys) → (zs.filterMap fun b => if ((ys.map Bx.name).any fun n => n == b.name) = true then some (f b) else none) = zs.map f := by
    intro zs
    induction zs with
    | nil => intro _; rfl
    | cons z zs ih =>
      intro hz
      have hc : ((ys.map Bx.name).any fun n => n == z.name) = true := List.any_eq_true.mpr ⟨z.name, List.mem_map_of_mem (hz z (List.mem_cons_self ..)), beq_self_eq_true _⟩
      rw [List.filterMap_cons, if_pos hc, ih fun y hy => hz y (List.mem_cons_of_mem _ hy)]
      rfl
  rw [e1, e2 ys fun z hz => hz]
  rfl
theorem bMulG (i j : Int) (h : okMul i j = true) : dBin .Mult (.int i) (.int j) = some (.int (i * j), false) := if_pos h
theorem lcNames (bs : List Bx) (j : Nat) (es : List Int) (x1 : Int) (d1 : dIx (.list (es.map PyData.int)) (.int 1) = some (.int x1, false)) (mj : dBin .Mod (.int x1) (.int (bs.length : Int)) = some (.int (j : Int), false)) (a2 a3 a4 a5 a6 a7 a8 a9 : D) :
    mLc [] [13] (miVal (mSl (mVar 1) (some (ev2 (ev2 (mVar 0) (mConst (.int 1)) dIx) (mBi .len (lR [(mVar 1)])) (dBin .Mod))) none)) (gVar 13) (mIfs none) (ev2 (mVar 13) (mConst (.int 0)) dIx)
      [some ⟨.list (es.map PyData.int), false⟩, some ⟨.list (bs.map Bx.d), false⟩, some ⟨a2, false⟩, some ⟨a3, false⟩, some ⟨a4, false⟩, some ⟨a5, false⟩, some ⟨a6, false⟩, some ⟨a7, false⟩, some ⟨a8, false⟩, some ⟨a9, false⟩, none, none, none, none, none] =
    some (.list (((bs.drop j).map Bx.name).map PyData.str), .fr, [some ⟨.list (es.map PyData.int), false⟩, some ⟨.list (bs.map Bx.d), false⟩, some ⟨a2, false⟩, some ⟨a3, false⟩, some ⟨a4, false⟩, some ⟨a5, false⟩, some ⟨a6, false⟩, some ⟨a7, false⟩, some ⟨a8, false⟩, some ⟨a9, false⟩, none, none, none, none, none]) := by
  have hcut : dSl (.list (bs.map Bx.d)) (some (j : Int)) none = some (.list ((bs.drop j).map Bx.d), true) := by
    simp only [dSl]
    rw [cutDrop, List.map_drop]
  have en : ((bs.drop j).map fun b => PyData.str b.name) = ((bs.drop j).map Bx.name).map PyData.str := by rw [List.map_map]; rfl
  simp only [mAug, miZip, seqOf, inSignR, ninSignR, eqNil, eqNilT, inStrsT, inStrsL, biAll, biAny, true_and, and_true, and_self, Int.reducePow, Int.reduceNeg, Int.reduceToNat, rangeD, List.cons_append, List.nil_append, List.length_append, bAddL, bAddT, bMod, bNeg, biList, biListT, biTup, biTupT, biMax, isnB, isB, mDct0, sizeLine, Nat.reducePow, Nat.reduceLeDiff, cond_true, cond_false, Bool.not_eq_true, Int.cast_ofNat_Int, decide_true, decide_false, Int.reduceEq, Int.reduceLT, Int.reduceLE, Int.reduceSub, Int.reduceAdd, beq_self_eq_true, mSeq, mRet, mVar, mConst, ev1, ev2, mBool, mTru, mIfS, mIf, mSet, mAsg, mPar2, mSortSet, mSetI, mMeth, mBi, mCall, mTup, mLst, mSl, mPart, mAnd, mOr, mNotT, vAnd, vOr, mSkip, mIfs, mChain, mLenSet, mSetL, mFn, mGet2, miVal, miRange, miEnum, lS, lR, gVar, gTupD, gsCons, gsNil, shEnv, shIdx, inner, hideOwn, wipeE, kOf, frOf, fOut, List.getElem?_cons_zero, List.getElem?_cons_succ, List.getElem?_nil, List.set_cons_zero, List.set_cons_succ, List.map_cons, List.map_nil, List.length_cons, List.length_nil, Bool.false_eq_true, ↓reduceIte, Nat.reduceAdd, lc1, iterD, dTru, dIsaR, dIsa, dNot, cEqII, cNeII, cEqSS, cNeSS, cLtII, cLeII, cGtII, cGeII, cLtII', cLeII', bAdd, bSub, ixT0, ixL0, ixT1, ixL1, ixT2, ixL2, ixT3, biLenL, biLenT, Bool.not_true, Bool.not_false, Bool.true_and, Bool.false_and, Bool.and_true, Bool.and_false, mLc, d1, List.length_map, mj, hcut]
  rw [lcMapA (f := Bx.d) (fun b : Bx => .str b.name) (fun b _ => by simp only [mAug, miZip, seqOf, inSignR, ninSignR, eqNil, eqNilT, inStrsT, inStrsL, biAll, biAny, true_and, and_true, and_self, Int.reducePow, Int.reduceNeg, Int.reduceToNat, rangeD, List.cons_append, List.nil_append, List.length_append, bAddL, bAddT, bMod, bNeg, biList, biListT, biTup, biTupT, biMax, isnB, isB, mDct0, sizeLine, Nat.reducePow, Nat.reduceLeDiff, cond_true, cond_false, Bool.not_eq_true, Int.cast_ofNat_Int, decide_true, decide_false, Int.reduceEq, Int.reduceLT, Int.reduceLE, Int.reduceSub, Int.reduceAdd, beq_self_eq_true, mSeq, mRet, mVar, mConst, ev1, ev2, mBool, mTru, mIfS, mIf, mSet, mAsg, mPar2, mSortSet, mSetI, mMeth, mBi, mCall, mTup, mLst, mSl, mPart, mAnd, mOr, mNotT, vAnd, vOr, mSkip, mIfs, mChain, mLenSet, mSetL, mFn, mGet2, miVal, miRange, miEnum, lS, lR, gVar, gTupD, gsCons, gsNil, shEnv, shIdx, inner, hideOwn, wipeE, kOf, frOf, fOut, List.getElem?_cons_zero, List.getElem?_cons_succ, List.getElem?_nil, List.set_cons_zero, List.set_cons_succ, List.map_cons, List.map_nil, List.length_cons, List.length_nil, Bool.false_eq_true, ↓reduceIte, Nat.reduceAdd, lc1, iterD, dTru, dIsaR, dIsa, dNot, cEqII, cNeII, cEqSS, cNeSS, cLtII, cLeII, cGtII, cGeII, cLtII', cLeII', bAdd, bSub, ixT0, ixL0, ixT1, ixL1, ixT2, ixL2, ixT3, biLenL, biLenT, Bool.not_true, Bool.not_false, Bool.true_and, Bool.false_and, Bool.and_true, Bool.and_false, Bx.d]), en]
theorem lcRow (bs : List Bx) (ok : BsOk bs) (j : Nat) (es : List Int) (x2 x3 : Int) (d2 : dIx (.list (es.map PyData.int)) (.int 2) = some (.int x2, false)) (d3 : dIx (.list (es.map PyData.int)) (.int 3) = some (.int x3, false)) (b3 : 0 ≤ x3 ∧ x3 < 420) (t : Int) (s2 s3 s4 s5 s6 s7 s8 s9 s11 s12 s13 : Option Sl) :
    lcLoop [some ⟨.list (es.map PyData.int), false⟩, some ⟨.list (bs.map Bx.d), false⟩, s2, s3, s4, s5, s6, s7, s8, s9, some ⟨.tuple (((bs.drop j).map Bx.name).map PyData.str), false⟩, s11, s12, none, some ⟨.int t, false⟩] (gVar 13) (mIfs (some (mBool (ev2 (ev2 (mVar 13) (mConst (.int 0)) dIx) (mVar 10) (dCmpR .In))))) (ev2 (ev2 (ev2 (mVar 0) (mConst (.int 2)) dIx) (ev2 (mVar 14) (ev2 (mVar 0) (mConst (.int 3)) dIx) (dBin .Mult)) (dBin .Add)) (ev2 (mVar 13) (mConst (.int 1)) dIx) (dBin .Mod)) (bs.map Bx.d) =
    some ((rowT (bs.drop j) x2 x3 t).map PyData.int) := by
  have er : (rowT (bs.drop j) x2 x3 t).map PyData.int = (bs.drop j).map fun b => PyData.int ((x2 + t * x3) % b.size) := by unfold rowT; rw [List.map_map]; rfl
  rw [er, ← filt_drop ok.nd j fun b => PyData.int ((x2 + t * x3) % b.size)]
  refine lcFmA (f := Bx.d) _ fun b hb => ?_
  have hok := okMulR (i := t) (j := x3) (by omega) (by omega)
  have hM : dBin .Mult (.int t) (.int x3) = some (.int (t * x3), false) := bMulG _ _ hok
  have hm := bMod (x2 + t * x3) b.size (by have := ok.sz b hb; omega)
  simp only [mAug, miZip, seqOf, inSignR, ninSignR, eqNil, eqNilT, inStrsT, inStrsL, biAll, biAny, true_and, and_true, and_self, Int.reducePow, Int.reduceNeg, Int.reduceToNat, rangeD, List.cons_append, List.nil_append, List.length_append, bAddL, bAddT, bMod, bNeg, biList, biListT, biTup, biTupT, biMax, isnB, isB, mDct0, sizeLine, Nat.reducePow, Nat.reduceLeDiff, cond_true, cond_false, Bool.not_eq_true, Int.cast_ofNat_Int, decide_true, decide_false, Int.reduceEq, Int.reduceLT, Int.reduceLE, Int.reduceSub, Int.reduceAdd, beq_self_eq_true, mSeq, mRet, mVar, mConst, ev1, ev2, mBool, mTru, mIfS, mIf, mSet, mAsg, mPar2, mSortSet, mSetI, mMeth, mBi, mCall, mTup, mLst, mSl, mPart, mAnd, mOr, mNotT, vAnd, vOr, mSkip, mIfs, mChain, mLenSet, mSetL, mFn, mGet2, miVal, miRange, miEnum, lS, lR, gVar, gTupD, gsCons, gsNil, shEnv, shIdx, inner, hideOwn, wipeE, kOf, frOf, fOut, List.getElem?_cons_zero, List.getElem?_cons_succ, List.getElem?_nil, List.set_cons_zero, List.set_cons_succ, List.map_cons, List.map_nil, List.length_cons, List.length_nil, Bool.false_eq_true, ↓reduceIte, Nat.reduceAdd, lc1, iterD, dTru, dIsaR, dIsa, dNot, cEqII, cNeII, cEqSS, cNeSS, cLtII, cLeII, cGtII, cGeII, cLtII', cLeII', bAdd, bSub, ixT0, ixL0, ixT1, ixL1, ixT2, ixL2, ixT3, biLenL, biLenT, Bool.not_true, Bool.not_false, Bool.true_and, Bool.false_and, Bool.and_true, Bool.and_false, Bx.d, inStrsT]
  cases q : (((bs.drop j).map Bx.name).any fun x => x == b.name) with
  | false => simp only [mAug, miZip, seqOf, inSignR, ninSignR, eqNil, eqNilT, inStrsT, inStrsL, biAll, biAny, true_and, and_true, and_self, Int.reducePow, Int.reduceNeg, Int.reduceToNat, rangeD, List.cons_append, List.nil_append, List.length_append, bAddL, bAddT, bMod, bNeg, biList, biListT, biTup, biTupT, biMax, isnB, isB, mDct0, sizeLine, Nat.reducePow, Nat.reduceLeDiff, cond_true, cond_false, Bool.not_eq_true, Int.cast_ofNat_Int, decide_true, decide_false, Int.reduceEq, Int.reduceLT, Int.reduceLE, Int.reduceSub, Int.reduceAdd, beq_self_eq_true, mSeq, mRet, mVar, mConst, ev1, ev2, mBool, mTru, mIfS, mIf, mSet, mAsg, mPar2, mSortSet, mSetI, mMeth, mBi, mCall, mTup, mLst, mSl, mPart, mAnd, mOr, mNotT, vAnd, vOr, mSkip, mIfs, mChain, mLenSet, mSetL, mFn, mGet2, miVal, miRange, miEnum, lS, lR, gVar, gTupD, gsCons, gsNil, shEnv, shIdx, inner, hideOwn, wipeE, kOf, frOf, fOut, List.getElem?_cons_zero, List.getElem?_cons_succ, List.getElem?_nil, List.set_cons_zero, List.set_cons_succ, List.map_cons, List.map_nil, List.length_cons, List.length_nil, Bool.false_eq_true, ↓reduceIte, Nat.reduceAdd, lc1, iterD, dTru, dIsaR, dIsa, dNot, cEqII, cNeII, cEqSS, cNeSS, cLtII, cLeII, cGtII, cGeII, cLtII', cLeII', bAdd, bSub, ixT0, ixL0, ixT1, ixL1, ixT2, ixL2, ixT3, biLenL, biLenT, Bool.not_true, Bool.not_false, Bool.true_and, Bool.false_and, Bool.and_true, Bool.and_false, ]
  | true => simp only [mAug, miZip, seqOf, inSignR, ninSignR, eqNil, eqNilT, inStrsT, inStrsL, biAll, biAny, true_and, and_true, and_self, Int.reducePow, Int.reduceNeg, Int.reduceToNat, rangeD, List.cons_append, List.nil_append, List.length_append, bAddL, bAddT, bMod, bNeg, biList, biListT, biTup, biTupT, biMax, isnB, isB, mDct0, sizeLine, Nat.reducePow, Nat.reduceLeDiff, cond_true, cond_false, Bool.not_eq_true, Int.cast_ofNat_Int, decide_true, decide_false, Int.reduceEq, Int.reduceLT, Int.reduceLE, Int.reduceSub, Int.reduceAdd, beq_self_eq_true, mSeq, mRet, mVar, mConst, ev1, ev2, mBool, mTru, mIfS, mIf, mSet, mAsg, mPar2, mSortSet, mSetI, mMeth, mBi, mCall, mTup, mLst, mSl, mPart, mAnd, mOr, mNotT, vAnd, vOr, mSkip, mIfs, mChain, mLenSet, mSetL, mFn, mGet2, miVal, miRange, miEnum, lS, lR, gVar, gTupD, gsCons, gsNil, shEnv, shIdx, inner, hideOwn, wipeE, kOf, frOf, fOut, List.getElem?_cons_zero, List.getElem?_cons_succ, List.getElem?_nil, List.set_cons_zero, List.set_cons_succ, List.map_cons, List.map_nil, List.length_cons, List.length_nil, Bool.false_eq_true, ↓reduceIte, Nat.reduceAdd, lc1, iterD, dTru, dIsaR, dIsa, dNot, cEqII, cNeII, cEqSS, cNeSS, cLtII, cLeII, cGtII, cGeII, cLtII', cLeII', bAdd, bSub, ixT0, ixL0, ixT1, ixL1, ixT2, ixL2, ixT3, biLenL, biLenT, Bool.not_true, Bool.not_false, Bool.true_and, Bool.false_and, Bool.and_true, Bool.and_false, d2, d3, hM, hm]
theorem lcRows (bs : List Bx) (ok : BsOk bs) (j : Nat) (es : List Int) (x2 x3 : Int) (d2 : dIx (.list (es.map PyData.int)) (.int 2) = some (.int x2, false)) (d3 : dIx (.list (es.map PyData.int)) (.int 3) = some (.int x3, false)) (b3 : 0 ≤ x3 ∧ x3 < 420) (a2 a3 a4 a5 a6 a7 a8 a9 : D) :
    mLc [1, 0, 10] [14] (miRange (lS [(mConst (.int 3))])) (gVar 14) (mIfs none) (mBi .tuple (lR [(mLc [0, 10, 14] [13] (miVal (mVar 1)) (gVar 13) (mIfs (some (mBool (ev2 (ev2 (mVar 13) (mConst (.int 0)) dIx) (mVar 10) (dCmpR .In))))) (ev2 (ev2 (ev2 (mVar 0) (mConst (.int 2)) dIx) (ev2 (mVar 14) (ev2 (mVar 0) (mConst (.int 3)) dIx) (dBin .Mult)) (dBin .Add)) (ev2 (mVar 13) (mConst (.int 1)) dIx) (dBin .Mod)))]))
      [some ⟨.list (es.map PyData.int), false⟩, some ⟨.list (bs.map Bx.d), false⟩, some ⟨a2, false⟩, some ⟨a3, false⟩, some ⟨a4, false⟩, some ⟨a5, false⟩, some ⟨a6, false⟩, some ⟨a7, false⟩, some ⟨a8, false⟩, some ⟨a9, false⟩, some ⟨.tuple (((bs.drop j).map Bx.name).map PyData.str), false⟩, none, none, none, none] =
    some (.list [wTup (rowT (bs.drop j) x2 x3 0), wTup (rowT (bs.drop j) x2 x3 1), wTup (rowT (bs.drop j) x2 x3 2)], .fr, [some ⟨.list (es.map PyData.int), false⟩, some ⟨.list (bs.map Bx.d), false⟩, some ⟨a2, false⟩, some ⟨a3, false⟩, some ⟨a4, false⟩, some ⟨a5, false⟩, some ⟨a6, false⟩, some ⟨a7, false⟩, some ⟨a8, false⟩, some ⟨a9, false⟩, some ⟨.tuple (((bs.drop j).map Bx.name).map PyData.str), false⟩, none, none, none, none]) := by
  have one : ∀ t : Int, mBi .tuple (lR [(mLc [0, 10, 14] [13] (miVal (mVar 1)) (gVar 13) (mIfs (some (mBool (ev2 (ev2 (mVar 13) (mConst (.int 0)) dIx) (mVar 10) (dCmpR .In))))) (ev2 (ev2 (ev2 (mVar 0) (mConst (.int 2)) dIx) (ev2 (mVar 14) (ev2 (mVar 0) (mConst (.int 3)) dIx) (dBin .Mult)) (dBin .Add)) (ev2 (mVar 13) (mConst (.int 1)) dIx) (dBin .Mod)))])
      [some ⟨.list (es.map PyData.int), false⟩, some ⟨.list (bs.map Bx.d), false⟩, some ⟨a2, false⟩, some ⟨a3, false⟩, some ⟨a4, false⟩, some ⟨a5, false⟩, some ⟨a6, false⟩, some ⟨a7, false⟩, some ⟨a8, false⟩, some ⟨a9, false⟩, some ⟨.tuple (((bs.drop j).map Bx.name).map PyData.str), false⟩, none, none, none, some ⟨.int t, false⟩] =
      some (wTup (rowT (bs.drop j) x2 x3 t), .sh, [some ⟨.list (es.map PyData.int), false⟩, some ⟨.list (bs.map Bx.d), false⟩, some ⟨a2, false⟩, some ⟨a3, false⟩, some ⟨a4, false⟩, some ⟨a5, false⟩, some ⟨a6, false⟩, some ⟨a7, false⟩, some ⟨a8, false⟩, some ⟨a9, false⟩, some ⟨.tuple (((bs.drop j).map Bx.name).map PyData.str), false⟩, none, none, none, some ⟨.int t, false⟩]) := fun t => by
    have r := lcRow bs ok j es x2 x3 d2 d3 b3 t (some ⟨a2, false⟩) (some ⟨a3, false⟩) (some ⟨a4, false⟩) (some ⟨a5, false⟩) (some ⟨a6, false⟩) (some ⟨a7, false⟩) (some ⟨a8, false⟩) (some ⟨a9, false⟩) none none none
    have q : mLc [0, 10, 14] [13] (miVal (mVar 1)) (gVar 13) (mIfs (some (mBool (ev2 (ev2 (mVar 13) (mConst (.int 0)) dIx) (mVar 10) (dCmpR .In))))) (ev2 (ev2 (ev2 (mVar 0) (mConst (.int 2)) dIx) (ev2 (mVar 14) (ev2 (mVar 0) (mConst (.int 3)) dIx) (dBin .Mult)) (dBin .Add)) (ev2 (mVar 13) (mConst (.int 1)) dIx) (dBin .Mod))
      [some ⟨.list (es.map PyData.int), false⟩, some ⟨.list (bs.map Bx.d), false⟩, some ⟨a2, false⟩, some ⟨a3, false⟩, some ⟨a4, false⟩, some ⟨a5, false⟩, some ⟨a6, false⟩, some ⟨a7, false⟩, some ⟨a8, false⟩, some ⟨a9, false⟩, some ⟨.tuple (((bs.drop j).map Bx.name).map PyData.str), false⟩, none, none, none, some ⟨.int t, false⟩] =
      some (.list ((rowT (bs.drop j) x2 x3 t).map PyData.int), .fr, [some ⟨.list (es.map PyData.int), false⟩, some ⟨.list (bs.map Bx.d), false⟩, some ⟨a2, false⟩, some ⟨a3, false⟩, some ⟨a4, false⟩, some ⟨a5, false⟩, some ⟨a6, false⟩, some ⟨a7, false⟩, some ⟨a8, false⟩, some ⟨a9, false⟩, some ⟨.tuple (((bs.drop j).map Bx.name).map PyData.str), false⟩, none, none, none, some ⟨.int t, false⟩]) :=
      Eq.trans (eLc (eItV (eVarS rfl) rfl) r) rfl
    generalize mLc [0, 10, 14] [13] (miVal (mVar 1)) (gVar 13) (mIfs (some (mBool (ev2 (ev2 (mVar 13) (mConst (.int 0)) dIx) (mVar 10) (dCmpR .In))))) (ev2 (ev2 (ev2 (mVar 0) (mConst (.int 2)) dIx) (ev2 (mVar 14) (ev2 (mVar 0) (mConst (.int 3)) dIx) (dBin .Mult)) (dBin .Add)) (ev2 (mVar 13) (mConst (.int 1)) dIx) (dBin .Mod)) = M at *
    simp only [mAug, miZip, seqOf, inSignR, ninSignR, eqNil, eqNilT, inStrsT, inStrsL, biAll, biAny, true_and, and_true, and_self, Int.reducePow, Int.reduceNeg, Int.reduceToNat, rangeD, List.cons_append, List.nil_append, List.length_append, bAddL, bAddT, bMod, bNeg, biList, biListT, biTup, biTupT, biMax, isnB, isB, mDct0, sizeLine, Nat.reducePow, Nat.reduceLeDiff, cond_true, cond_false, Bool.not_eq_true, Int.cast_ofNat_Int, decide_true, decide_false, Int.reduceEq, Int.reduceLT, Int.reduceLE, Int.reduceSub, Int.reduceAdd, beq_self_eq_true, mSeq, mRet, mVar, mConst, ev1, ev2, mBool, mTru, mIfS, mIf, mSet, mAsg, mPar2, mSortSet, mSetI, mMeth, mBi, mCall, mTup, mLst, mSl, mPart, mAnd, mOr, mNotT, vAnd, vOr, mSkip, mIfs, mChain, mLenSet, mSetL, mFn, mGet2, miVal, miRange, miEnum, lS, lR, gVar, gTupD, gsCons, gsNil, shEnv, shIdx, inner, hideOwn, wipeE, kOf, frOf, fOut, List.getElem?_cons_zero, List.getElem?_cons_succ, List.getElem?_nil, List.set_cons_zero, List.set_cons_succ, List.map_cons, List.map_nil, List.length_cons, List.length_nil, Bool.false_eq_true, ↓reduceIte, Nat.reduceAdd, lc1, iterD, dTru, dIsaR, dIsa, dNot, cEqII, cNeII, cEqSS, cNeSS, cLtII, cLeII, cGtII, cGeII, cLtII', cLeII', bAdd, bSub, ixT0, ixL0, ixT1, ixL1, ixT2, ixL2, ixT3, biLenL, biLenT, Bool.not_true, Bool.not_false, Bool.true_and, Bool.false_and, Bool.and_true, Bool.and_false, q, wTup]
  generalize mBi .tuple (lR [(mLc [0, 10, 14] [13] (miVal (mVar 1)) (gVar 13) (mIfs (some (mBool (ev2 (ev2 (mVar 13) (mConst (.int 0)) dIx) (mVar 10) (dCmpR .In))))) (ev2 (ev2 (ev2 (mVar 0) (mConst (.int 2)) dIx) (ev2 (mVar 14) (ev2 (mVar 0) (mConst (.int 3)) dIx) (dBin .Mult)) (dBin .Add)) (ev2 (mVar 13) (mConst (.int 1)) dIx) (dBin .Mod)))]) = M at *
  have l : (List.range 3).map (fun i : Nat => PyData.int i) = [.int 0, .int 1, .int 2] := rfl
  simp only [mAug, miZip, seqOf, inSignR, ninSignR, eqNil, eqNilT, inStrsT, inStrsL, biAll, biAny, true_and, and_true, and_self, Int.reducePow, Int.reduceNeg, Int.reduceToNat, rangeD, List.cons_append, List.nil_append, List.length_append, bAddL, bAddT, bMod, bNeg, biList, biListT, biTup, biTupT, biMax, isnB, isB, mDct0, sizeLine, Nat.reducePow, Nat.reduceLeDiff, cond_true, cond_false, Bool.not_eq_true, Int.cast_ofNat_Int, decide_true, decide_false, Int.reduceEq, Int.reduceLT, Int.reduceLE, Int.reduceSub, Int.reduceAdd, beq_self_eq_true, mSeq, mRet, mVar, mConst, ev1, ev2, mBool, mTru, mIfS, mIf, mSet, mAsg, mPar2, mSortSet, mSetI, mMeth, mBi, mCall, mTup, mLst, mSl, mPart, mAnd, mOr, mNotT, vAnd, vOr, mSkip, mIfs, mChain, mLenSet, mSetL, mFn, mGet2, miVal, miRange, miEnum, lS, lR, gVar, gTupD, gsCons, gsNil, shEnv, shIdx, inner, hideOwn, wipeE, kOf, frOf, fOut, List.getElem?_cons_zero, List.getElem?_cons_succ, List.getElem?_nil, List.set_cons_zero, List.set_cons_succ, List.map_cons, List.map_nil, List.length_cons, List.length_nil, Bool.false_eq_true, ↓reduceIte, Nat.reduceAdd, lc1, iterD, dTru, dIsaR, dIsa, dNot, cEqII, cNeII, cEqSS, cNeSS, cLtII, cLeII, cGtII, cGeII, cLtII', cLeII', bAdd, bSub, ixT0, ixL0, ixT1, ixL1, ixT2, ixL2, ixT3, biLenL, biLenT, Bool.not_true, Bool.not_false, Bool.true_and, Bool.false_and, Bool.and_true, Bool.and_false, mLc, lcLoop, one, l]
end K02
set_option Elab.async false
set_option linter.all false
set_option maxRecDepth 100000
set_option maxHeartbeats 1000000
set_option autoImplicit false
namespace K02
open PySem PySem.Spec PyProof.Rows L2 HC
theorem wd {w : Str} (h : w ∈ (["yes", "is", "like", "among", "not", "and", "or", "zz", "A", "no"] : List Str)) : Shw 0 8 (.str w) := by
  have : ∀ w ∈ (["yes", "is", "like", "among", "not", "and", "or", "zz", "A", "no"] : List Str), shwB 0 8 (.str w) = true := by decide +kernel
  exact .of_b (this w h)
theorem nmS {bs : List Bx} (ok : BsOk bs) {b : Bx} (hb : b ∈ bs) : Shw 0 8 (.str b.name) := .of_niceS (ok.nok b hb)
theorem sh3 {a b c : D} {n m : Nat} (ha : Shw n m a) (hb : Shw n m b) (hc : Shw n m c) : Shw (n + 1) (3 * (m + 2) + 3) (.tuple [a, b, c]) :=
  Shw.tuple (Shws.all (ds := [a, b, c]) fun d hd => by
    rcases List.mem_cons.mp hd with rfl | hd
    · exact ha
    · rcases List.mem_cons.mp hd with rfl | hd
      · exact hb
      · rw [List.mem_singleton.mp hd]; exact hc)
theorem sm3 {a b c : D} (ha : small a = true) (hb : small b = true) (hc : small c = true) : small (.tuple [a, b, c]) = true := by
  exact small_mk (by simp) fun d hd => by
    rcases List.mem_cons.mp hd with rfl | hd
    · exact ha
    · rcases List.mem_cons.mp hd with rfl | hd
      · exact hb
      · rw [List.mem_singleton.mp hd]; exact hc
theorem modS {x s : Int} (h : 2 ≤ s ∧ s ≤ 3) : Shw 0 8 (.int (x % s)) ∧ isWithin (.int (x % s)) 0 (s - 1) = true := by
  have h0 := Int.emod_nonneg x (show s ≠ 0 by omega)
  have h1 := Int.emod_lt_of_pos x (show 0 < s by omega)
  refine ⟨(Shw.int h0 (by omega)).mono (Nat.le_refl _) (by decide), ?_⟩
  simp only [isWithin, Bool.and_eq_true, decide_eq_true_eq]
  omega
theorem isTr {bs : List Bx} (ok : BsOk bs) {b : Bx} (hb : b ∈ bs) (x : Int) : Tr bs 0 (.tuple [.str "is", .str b.name, .int (x % b.size)]) := by
  obtain ⟨k1, k2⟩ := sz_at ok hb
  obtain ⟨s1, s2⟩ := modS (x := x) (ok.sz b hb)
  refine ⟨"is", [.str b.name, .int (x % b.size)], rfl, by decide +kernel, by decide +kernel, ?_, Nat.le_refl 2, sm3 rfl rfl rfl, (sh3 (wd (by simp)) (nmS ok hb) s1).mono (by decide) (by decide)⟩
  have e1 : (("is" : Str) == "yes") = false := by decide +kernel
  have e2 : (("is" : Str) == "is") = true := beq_self_eq_true _
  simp only [leaf, e1, e2, cond_false, cond_true, isA, k1, k2, s2, Bool.and_self]
theorem likeTr {bs : List Bx} (ok : BsOk bs) {b o : Bx} (hb : b ∈ bs) (ho : o ∈ bs) : Tr bs 0 (.tuple [.str "like", .str b.name, .str o.name]) := by
  refine ⟨"like", [.str b.name, .str o.name], rfl, by decide +kernel, by decide +kernel, ?_, Nat.le_refl 2, sm3 rfl rfl rfl, (sh3 (wd (by simp)) (nmS ok hb) (nmS ok ho)).mono (by decide) (by decide)⟩
  have e1 : (("like" : Str) == "yes") = false := by decide +kernel
  have e2 : (("like" : Str) == "is") = false := by decide +kernel
  have e3 : (("like" : Str) == "like") = true := beq_self_eq_true _
  simp only [leaf, e1, e2, e3, cond_false, cond_true, known, (sz_at ok hb).1, (sz_at ok ho).1, Bool.and_self]
theorem yesTr (bs : List Bx) : Tr bs 0 (.tuple [.str "yes"]) := by
  refine ⟨"yes", [], rfl, by decide +kernel, by decide +kernel, ?_, by decide, by decide, (Shw.one (wd (by simp))).mono (by decide) (by decide)⟩
  have e1 : (("yes" : Str) == "yes") = true := beq_self_eq_true _
  simp only [leaf, e1, cond_true, List.isEmpty_nil]
theorem rowT_len (ys : List Bx) (x y t : Int) : (rowT ys x y t).length = ys.length := by unfold rowT; rw [List.length_map]
theorem rowT_ok {bs : List Bx} (ok : BsOk bs) (x y t : Int) : ∀ ys : List Bx, (∀ b ∈ ys, b ∈ bs) → rowOk ((ys.map Bx.name).map (szOf bs)) (wTup (rowT ys x y t)) = true := fun ys hy => by
  simp only [rowOk, wTup]
  rw [Bool.and_eq_true]
  refine ⟨decide_eq_true (by rw [List.length_map, rowT_len, List.length_map, List.length_map]), ?_⟩
  induction ys with
  | nil => rfl
  | cons b ys ih =>
    have hb := hy b (List.mem_cons_self ..)
    have s := (modS (x := x + t * y) (ok.sz b hb)).2
    show ((PyData.int ((x + t * y) % b.size), szOf bs b.name) :: _).all _ = true
    rw [List.all_cons, Bool.and_eq_true]
    refine ⟨?_, ih fun c hc => hy c (List.mem_cons_of_mem _ hc)⟩
    rw [(sz_at ok hb).2]
    exact s
theorem ris_pw {S : List (List Int)} (h : S.Pairwise fun a b => HT.lexLt a b = true) : risB S = true := by
  rw [ris_iff]
  intro j a b h1 h2
  obtain ⟨l1, e1⟩ := List.getElem?_eq_some_iff.mp h1
  obtain ⟨l2, e2⟩ := List.getElem?_eq_some_iff.mp h2
  have := List.pairwise_iff_getElem.mp h j (j + 1) l1 l2 (by omega)
  rw [e1, e2] at this
  exact this
theorem intsD_w (ns : List Int) : intsD (wTup ns) = ns := by
  unfold wTup
  simp only [intsD]
  induction ns with
  | nil => rfl
  | cons n ns ih => rw [List.map_cons, List.filterMap_cons]; exact congrArg (List.cons n) ih
theorem amongTr {bs : List Bx} (ok : BsOk bs) (j : Nat) (hj : j < bs.length) (S : List (List Int)) (hl : S.length ≤ 3) (hS : ∀ r ∈ S, ∃ x y t, r = rowT (bs.drop j) x y t) (hp : S.Pairwise fun a b => HT.lexLt a b = true) :
    Tr bs 0 (.tuple [.str "among", .tuple (((bs.drop j).map Bx.name).map PyData.str), .tuple (S.map wTup)]) := by
  have sub : ∀ b ∈ bs.drop j, b ∈ bs := fun b hb => List.mem_of_mem_drop hb
  have dl : (bs.drop j).length ≤ 3 := by rw [List.length_drop]; have := ok.len; omega
  have hrow : ∀ r ∈ S, rowOk (((bs.drop j).map Bx.name).map (szOf bs)) (wTup r) = true := fun r hr => by
    obtain ⟨x, y, t, rfl⟩ := hS r hr
    exact rowT_ok ok x y t _ sub
  have hn : ∀ d ∈ ((bs.drop j).map Bx.name).map PyData.str, Shw 0 8 d := fun d hd => by
    obtain ⟨n, hn, rfl⟩ := List.mem_map.mp hd
    obtain ⟨b, hb, rfl⟩ := List.mem_map.mp hn
    exact nmS ok (sub b hb)
  have sN : Shw 2 72 (.tuple (((bs.drop j).map Bx.name).map PyData.str)) := (Shw.tuple (Shws.all hn)).mono (by decide) (by rw [List.length_map, List.length_map]; omega)
  have hr : ∀ d ∈ S.map wTup, Shw 1 21 d := fun d hd => by
    obtain ⟨r, hr, rfl⟩ := List.mem_map.mp hd
    obtain ⟨x, y, t, rfl⟩ := hS r hr
    unfold wTup
    refine (Shw.tuple (Shws.all (a := 0) (b := 4) fun d hd => ?_)).mono (Nat.le_refl _) (by rw [List.length_map, rowT_len]; omega)
    obtain ⟨i, hi, rfl⟩ := List.mem_map.mp hd
    unfold rowT at hi
    obtain ⟨b, hb, rfl⟩ := List.mem_map.mp hi
    have := ok.sz b (sub b hb)
    exact Shw.int (Int.emod_nonneg _ (by omega)) (by have := Int.emod_lt_of_pos (x + t * y) (show 0 < b.size by omega); omega)
  have sR : Shw 2 72 (.tuple (S.map wTup)) := (Shw.tuple (Shws.all hr)).mono (Nat.le_refl _) (by rw [List.length_map]; omega)
  refine ⟨"among", [_, _], rfl, by decide +kernel, by decide +kernel, ?_, Nat.le_refl 2, sm3 rfl ?_ ?_, (sh3 ((wd (by simp)).mono (by decide) (by decide)) sN sR).mono (by decide) (by omega)⟩
  · have e1 : (("among" : Str) == "yes") = false := by decide +kernel
    have e2 : (("among" : Str) == "is") = false := by decide +kernel
    have e3 : (("among" : Str) == "like") = false := by decide +kernel
    have e4 : (("among" : Str) == "among") = true := beq_self_eq_true _
    have k1 : (((bs.drop j).map Bx.name).map PyData.str).all (known bs) = true := List.all_eq_true.mpr fun d hd => by
      obtain ⟨n, hn, rfl⟩ := List.mem_map.mp hd
      obtain ⟨b, hb, rfl⟩ := List.mem_map.mp hn
      exact (sz_at ok (sub b hb)).1
    have k2 : distB ((bs.drop j).map Bx.name) = true := by
      rw [distB_iff, List.map_drop]
      exact ok.nd.sublist (List.drop_sublist _ _)
    have k3 : (((bs.drop j).map Bx.name).map PyData.str).isEmpty = false := by
      cases q : bs.drop j with
      | nil =>
        have := congrArg List.length q
        rw [List.length_drop, List.length_nil] at this
        omega
      | cons _ _ => rfl
    have k4 : (S.map wTup).all (rowOk (((bs.drop j).map Bx.name).map (szOf bs))) = true := List.all_eq_true.mpr fun d hd => by
      obtain ⟨r, hr, rfl⟩ := List.mem_map.mp hd
      exact hrow r hr
    have k5 : (S.map wTup).map intsD = S := by
      rw [List.map_map]
      have : (intsD ∘ wTup) = id := funext intsD_w
      rw [this, List.map_id]
    simp only [leaf, e1, e2, e3, e4, cond_false, Bool.true_and, among, areNames, k1, k2, k3, strsD_map, areRows, k4, k5, ris_pw hp, Bool.not_false, Bool.and_self]
  · refine small_mk (by rw [List.length_map, List.length_map]; omega) fun d hd => ?_
    obtain ⟨n, hn, rfl⟩ := List.mem_map.mp hd
    rfl
  · refine small_mk (by rw [List.length_map]; omega) fun d hd => ?_
    obtain ⟨r, hr, rfl⟩ := List.mem_map.mp hd
    obtain ⟨x, y, t, rfl⟩ := hS r hr
    unfold wTup
    refine small_mk (by rw [List.length_map, rowT_len]; omega) fun d hd => ?_
    obtain ⟨i, hi, rfl⟩ := List.mem_map.mp hd
    rfl
end K02
set_option Elab.async false
set_option linter.all false
set_option maxRecDepth 100000
set_option maxHeartbeats 1000000
set_option autoImplicit false
namespace K02
open PySem PySem.Spec PyProof.Rows L2 HC
theorem tr_up {bs : List Bx} {n : Nat} {t : D} (h : Tr bs n t) : Tr bs (n + 1) t := .inl h
theorem tr_not {bs : List Bx} {n : Nat} {t : D} (h : Tr bs n t) : Tr bs (n + 1) (.tuple [.str "not", t]) := .inr (.inl ⟨t, rfl, h⟩)
theorem tr_two {bs : List Bx} {n : Nat} {w : Str} {ps : List D} (hw : w = "and" ∨ w = "or") (h1 : 1 ≤ ps.length) (h2 : ps.length ≤ 3) (h : ∀ p ∈ ps, Tr bs n p) : Tr bs (n + 1) (.tuple [.str w, .tuple ps]) := .inr (.inr ⟨w, ps, hw, rfl, h1, h2, h⟩)
theorem sortRows {bs : List Bx} (ok : BsOk bs) (j : Nat) (hj : j < bs.length) (x y : Int) : ∃ S : List (List Int), dSortSet [wTup (rowT (bs.drop j) x y 0), wTup (rowT (bs.drop j) x y 1), wTup (rowT (bs.drop j) x y 2)] = some (.list (S.map wTup)) ∧ S.length ≤ 3 ∧ (∀ r ∈ S, ∃ x y t, r = rowT (bs.drop j) x y t) ∧ S.Pairwise fun a b => HT.lexLt a b = true := by
  have hlen : 1 ≤ (bs.drop j).length := by rw [List.length_drop]; omega
  have hall : ∀ t ∈ [rowT (bs.drop j) x y 0, rowT (bs.drop j) x y 1, rowT (bs.drop j) x y 2], (∃ τ, t = rowT (bs.drop j) x y τ) := fun t ht => by
    simp only [List.mem_cons, List.not_mem_nil, or_false] at ht
    rcases ht with rfl | rfl | rfl <;> exact ⟨_, rfl⟩
  have hin : ∀ t ∈ [rowT (bs.drop j) x y 0, rowT (bs.drop j) x y 1, rowT (bs.drop j) x y 2], t.length = (bs.drop j).length ∧ ∀ i ∈ t, 0 ≤ i ∧ i < 4096 := fun t ht => by
    obtain ⟨τ, rfl⟩ := hall t ht
    refine ⟨rowT_len _ _ _ _, fun i hi => ?_⟩
    unfold rowT at hi
    obtain ⟨b, hb, rfl⟩ := List.mem_map.mp hi
    have := ok.sz b (List.mem_of_mem_drop hb)
    have h1 := Int.emod_nonneg (x + τ * y) (show b.size ≠ 0 by omega)
    have h2 := Int.emod_lt_of_pos (x + τ * y) (show 0 < b.size by omega)
    omega
  have hok : okTups [rowT (bs.drop j) x y 0, rowT (bs.drop j) x y 1, rowT (bs.drop j) x y 2] = true := by
    unfold okTups
    rw [Bool.and_eq_true]
    refine ⟨decide_eq_true (by rw [rowT_len]; exact hlen), List.all_eq_true.mpr fun t ht => ?_⟩
    obtain ⟨h1, h2⟩ := hin t ht
    rw [Bool.and_eq_true]
    refine ⟨decide_eq_true (by rw [h1, rowT_len]), List.all_eq_true.mpr fun i hi => ?_⟩
    rw [Bool.and_eq_true]
    exact ⟨decide_eq_true (h2 i hi).1, decide_eq_true (h2 i hi).2⟩
  have e : intTups [wTup (rowT (bs.drop j) x y 0), wTup (rowT (bs.drop j) x y 1), wTup (rowT (bs.drop j) x y 2)] = some [rowT (bs.drop j) x y 0, rowT (bs.drop j) x y 1, rowT (bs.drop j) x y 2] := by
    simp only [intTups, wTup, intTup, asInts_map]
  refine ⟨sortB HT.lexLt [rowT (bs.drop j) x y 0, rowT (bs.drop j) x y 1, rowT (bs.drop j) x y 2], ?_, ?_, fun r hr => ?_, sortB_pw lex_tr fun a ha b hb => lex_tot a b ((hin a ha).1.trans (hin b hb).1.symm)⟩
  · unfold dSortSet
    rw [e]
    dsimp only
    rw [if_pos ⟨hok, show 3 < 64 by decide⟩]
    rfl
  · have ins : ∀ (a : List Int) (l : List (List Int)), (insB HT.lexLt a l).length ≤ l.length + 1 := by
      intro a l
      induction l with
      | nil => exact Nat.le_refl _
      | cons b l ih =>
        unfold insB
        split
        · simp
        · split
          · simp
          · rw [List.length_cons, List.length_cons]
            omega
    unfold sortB sortB sortB sortB
    have a1 := ins (rowT (bs.drop j) x y 2) []
    have a2 := ins (rowT (bs.drop j) x y 1) (insB HT.lexLt (rowT (bs.drop j) x y 2) [])
    have a3 := ins (rowT (bs.drop j) x y 0) (insB HT.lexLt (rowT (bs.drop j) x y 1) (insB HT.lexLt (rowT (bs.drop j) x y 2) []))
    rw [List.length_nil] at a1
    omega
  · obtain ⟨τ, h⟩ := hall r ((sortB_mem HT.lexLt).mp hr)
    exact ⟨x, y, τ, h⟩
theorem p__law_condition (k : Nat) (bs : List Bx) (ok : BsOk bs) (es : List Int) (x0 x1 x2 x3 x4 : Int) (h0 : es[0]? = some x0) (h1 : es[1]? = some x1) (h2 : es[2]? = some x2) (h3 : es[3]? = some x3) (h4 : es[4]? = some x4) (b3 : 0 ≤ x3 ∧ x3 < 420) :
    ∃ t, CF (k + 1) "_law_condition" [.list (es.map PyData.int), .list (bs.map Bx.d)] = some (t, false) ∧ Tr bs 2 t := by
  have hne : 0 < bs.length := List.length_pos_iff.mpr ok.ne
  have hneI : (0 : Int) < (bs.length : Int) := by omega
  obtain ⟨b, hb, i0⟩ := box_at bs x0 hne
  obtain ⟨o, ho, i1⟩ := box_at bs x1 hne
  have d0 : dIx (.list (es.map PyData.int)) (.int 0) = some (.int x0, false) := HC.ixD es 0 _ h0
  have d1 : dIx (.list (es.map PyData.int)) (.int 1) = some (.int x1, false) := HC.ixD es 1 _ h1
  have d2 : dIx (.list (es.map PyData.int)) (.int 2) = some (.int x2, false) := HC.ixD es 2 _ h2
  have d3 : dIx (.list (es.map PyData.int)) (.int 3) = some (.int x3, false) := HC.ixD es 3 _ h3
  have d4 : dIx (.list (es.map PyData.int)) (.int 4) = some (.int x4, false) := HC.ixD es 4 _ h4
  have m0 := bMod x0 _ hneI
  have sb := ok.sz b hb
  have so := ok.sz o ho
  have m2 := bMod x2 b.size (by omega)
  have m3 := bMod x3 o.size (by omega)
  obtain ⟨j, hj⟩ := Int.eq_ofNat_of_zero_le (Int.emod_nonneg x1 (show (bs.length : Int) ≠ 0 by omega))
  have hjl : j < bs.length := by have := Int.emod_lt_of_pos x1 hneI; omega
  have mj : dBin .Mod (.int x1) (.int (bs.length : Int)) = some (.int (j : Int), false) := by rw [← hj]; exact bMod x1 _ hneI
  rw [hj] at i1
  obtain ⟨S, hS1, hS2, hS3, hS4⟩ := sortRows ok j hjl x2 x3
  have n1 := lcNames bs j es x1 d1 mj
  have n2 := lcRows bs ok j es x2 x3 d2 d3 b3
  have f1 := isTr ok hb x2
  have f2 := isTr ok ho x3
  have f3 := likeTr ok hb ho
  have f4 := amongTr ok j hjl S hS2 hS3 hS4
  have two : ∀ {n : Nat} {p q : D}, Tr bs n p → Tr bs n q → ∀ r ∈ [p, q], Tr bs n r := fun hp hq r hr => by
    rcases List.mem_cons.mp hr with rfl | hr
    · exact hp
    · rw [List.mem_singleton.mp hr]; exact hq
  obtain ⟨t, ht, _, hi⟩ := ixMod (ds := [.tuple [.str "yes"], .tuple [.str "is", .str b.name, .int (x2 % b.size)], .tuple [.str "not", .tuple [.str "is", .str b.name, .int (x2 % b.size)]],
    .tuple [.str "and", .tuple [.tuple [.str "is", .str b.name, .int (x2 % b.size)], .tuple [.str "not", .tuple [.str "is", .str o.name, .int (x3 % o.size)]]]],
    .tuple [.str "or", .tuple [.tuple [.str "is", .str b.name, .int (x2 % b.size)], .tuple [.str "is", .str o.name, .int (x3 % o.size)]]],
    .tuple [.str "like", .str b.name, .str o.name], .tuple [.str "among", .tuple (((bs.drop j).map Bx.name).map PyData.str), .tuple (S.map wTup)],
    .tuple [.str "or", .tuple [.tuple [.str "is", .str o.name, .int (x3 % o.size)], .tuple [.str "is", .str b.name, .int (x2 % b.size)], .tuple [.str "is", .str o.name, .int (x3 % o.size)]]]]) (i := x4) (by simp)
  refine ⟨t, ?_, ?_⟩
  · rw [c__law_condition]
    unfold b__law_condition
    simp only [List.length_cons, List.length_nil, Nat.reduceAdd, Int.cast_ofNat_Int] at hi
    generalize mLc [] [13] (miVal (mSl (mVar 1) (some (ev2 (ev2 (mVar 0) (mConst (.int 1)) dIx) (mBi .len (lR [(mVar 1)])) (dBin .Mod))) none)) (gVar 13) (mIfs none) (ev2 (mVar 13) (mConst (.int 0)) dIx) = M1 at n1 ⊢
    generalize mLc [1, 0, 10] [14] (miRange (lS [(mConst (.int 3))])) (gVar 14) (mIfs none) (mBi .tuple (lR [(mLc [0, 10, 14] [13] (miVal (mVar 1)) (gVar 13) (mIfs (some (mBool (ev2 (ev2 (mVar 13) (mConst (.int 0)) dIx) (mVar 10) (dCmpR .In))))) (ev2 (ev2 (ev2 (mVar 0) (mConst (.int 2)) dIx) (ev2 (mVar 14) (ev2 (mVar 0) (mConst (.int 3)) dIx) (dBin .Mult)) (dBin .Add)) (ev2 (mVar 13) (mConst (.int 1)) dIx) (dBin .Mod)))])) = M2 at n2 ⊢
    simp only [mAug, miZip, seqOf, inSignR, ninSignR, eqNil, eqNilT, inStrsT, inStrsL, biAll, biAny, true_and, and_true, and_self, Int.reducePow, Int.reduceNeg, Int.reduceToNat, rangeD, List.cons_append, List.nil_append, List.length_append, bAddL, bAddT, bMod, bNeg, biList, biListT, biTup, biTupT, biMax, isnB, isB, mDct0, sizeLine, Nat.reducePow, Nat.reduceLeDiff, cond_true, cond_false, Bool.not_eq_true, Int.cast_ofNat_Int, decide_true, decide_false, Int.reduceEq, Int.reduceLT, Int.reduceLE, Int.reduceSub, Int.reduceAdd, beq_self_eq_true, mSeq, mRet, mVar, mConst, ev1, ev2, mBool, mTru, mIfS, mIf, mSet, mAsg, mPar2, mSortSet, mSetI, mMeth, mBi, mCall, mTup, mLst, mSl, mPart, mAnd, mOr, mNotT, vAnd, vOr, mSkip, mIfs, mChain, mLenSet, mSetL, mFn, mGet2, miVal, miRange, miEnum, lS, lR, gVar, gTupD, gsCons, gsNil, shEnv, shIdx, inner, hideOwn, wipeE, kOf, frOf, fOut, List.getElem?_cons_zero, List.getElem?_cons_succ, List.getElem?_nil, List.set_cons_zero, List.set_cons_succ, List.map_cons, List.map_nil, List.length_cons, List.length_nil, Bool.false_eq_true, ↓reduceIte, Nat.reduceAdd, lc1, iterD, dTru, dIsaR, dIsa, dNot, cEqII, cNeII, cEqSS, cNeSS, cLtII, cLeII, cGtII, cGeII, cLtII', cLeII', bAdd, bSub, ixT0, ixL0, ixT1, ixL1, ixT2, ixL2, ixT3, biLenL, biLenT, Bool.not_true, Bool.not_false, Bool.true_and, Bool.false_and, Bool.and_true, Bool.and_false, d0, d1, d2, d3, d4, List.length_map, m0, mj, i0, i1, Bx.d, m2, m3, n1, n2, hS1, hi]
  · simp only [List.mem_cons, List.not_mem_nil, or_false] at ht
    rcases ht with rfl | rfl | rfl | rfl | rfl | rfl | rfl | rfl
    · exact tr_up (tr_up (yesTr bs))
    · exact tr_up (tr_up f1)
    · exact tr_up (tr_not f1)
    · exact tr_two (.inl rfl) (by simp) (by simp) (two (tr_up f1) (tr_not f2))
    · exact tr_up (tr_two (.inr rfl) (by simp) (by simp) (two f1 f2))
    · exact tr_up (tr_up f3)
    · exact tr_up (tr_up f4)
    · refine tr_up (tr_two (.inr rfl) (by simp) (by simp) fun r hr => ?_)
      rcases List.mem_cons.mp hr with rfl | hr
      · exact f2
      · exact two f1 f2 r hr
end K02
set_option Elab.async false
set_option linter.all false
set_option maxRecDepth 100000
set_option maxHeartbeats 1000000
set_option autoImplicit false
namespace K02
open PySem PySem.Spec PyProof.Rows L2 HC
theorem cutD1 (es : List Int) (n : Nat) : dSl (.list (es.map PyData.int)) (some (n : Int)) none = some (.list ((es.drop n).map PyData.int), true) := by
  simp only [dSl]
  rw [cutDrop, List.map_drop]
theorem cut3 {bs : List Bx} {n : Nat} {t : D} (h : Tr bs n t) : ∃ ds, t = .tuple ds ∧ ds.length ≤ 3 ∧ 1 ≤ ds.length := by
  induction n with
  | zero =>
    obtain ⟨w, ds, rfl, _, _, _, hl, _⟩ := h
    exact ⟨_, rfl, by rw [List.length_cons]; omega, by simp⟩
  | succ n ih =>
    rcases h with h | ⟨x, rfl, h⟩ | ⟨w, ps, hw, rfl, h1, h2, h3⟩
    · exact ih h
    · exact ⟨_, rfl, by simp, by simp⟩
    · exact ⟨_, rfl, by simp, by simp⟩
theorem p__law_tree (k : Nat) (bs : List Bx) (ok : BsOk bs) : ∀ (n : Nat) (es : List Int), (∀ e ∈ es, 0 ≤ e ∧ e < 420) → 8 * n + 8 ≤ es.length → ∃ t, CF (k + n + 2) "_law_tree" [.list (es.map PyData.int), .list (bs.map Bx.d), .int ((n + 1 : Nat) : Int)] = some (t, false) ∧ Tr bs (n + 2) t := by
  intro n
  induction n with
  | zero =>
    intro es hb hl
    have gt : ∀ i : Nat, i < 8 → ∃ x : Int, es[i]? = some x := fun i h => ⟨es[i]'(by omega), List.getElem?_eq_getElem _⟩
    obtain ⟨x1, h1⟩ := gt 1 (by decide)
    obtain ⟨x2, h2⟩ := gt 2 (by decide)
    obtain ⟨x3, h3⟩ := gt 3 (by decide)
    obtain ⟨x4, h4⟩ := gt 4 (by decide)
    obtain ⟨x5, h5⟩ := gt 5 (by decide)
    obtain ⟨t, ht, tr⟩ := p__law_condition k bs ok (es.drop 1) x1 x2 x3 x4 x5 (by rw [List.getElem?_drop]; exact h1) (by rw [List.getElem?_drop]; exact h2) (by rw [List.getElem?_drop]; exact h3) (by rw [List.getElem?_drop]; exact h4) (by rw [List.getElem?_drop]; exact h5) (hb x4 (List.mem_of_getElem? h4))
    obtain ⟨ds, rfl, hl3, _⟩ := cut3 tr
    refine ⟨.tuple ds, ?_, tr⟩
    have hcut := cutD1 es 1
    have hc3 : dSl (.tuple ds) none (some 3) = some (.tuple ds, false) := by
      simp only [dSl]
      rw [show (3 : Int) = ((3 : Nat) : Int) from rfl, cutTake, List.take_of_length_le hl3]
    rw [c__law_tree]
    unfold b__law_tree
    rw [show ((1 : Nat) : Int) = 1 from rfl] at hcut
    simp only [mAug, miZip, seqOf, inSignR, ninSignR, eqNil, eqNilT, inStrsT, inStrsL, biAll, biAny, true_and, and_true, and_self, Int.reducePow, Int.reduceNeg, Int.reduceToNat, rangeD, List.cons_append, List.nil_append, List.length_append, bAddL, bAddT, bMod, bNeg, biList, biListT, biTup, biTupT, biMax, isnB, isB, mDct0, sizeLine, Nat.reducePow, Nat.reduceLeDiff, cond_true, cond_false, Bool.not_eq_true, Int.cast_ofNat_Int, decide_true, decide_false, Int.reduceEq, Int.reduceLT, Int.reduceLE, Int.reduceSub, Int.reduceAdd, beq_self_eq_true, mSeq, mRet, mVar, mConst, ev1, ev2, mBool, mTru, mIfS, mIf, mSet, mAsg, mPar2, mSortSet, mSetI, mMeth, mBi, mCall, mTup, mLst, mSl, mPart, mAnd, mOr, mNotT, vAnd, vOr, mSkip, mIfs, mChain, mLenSet, mSetL, mFn, mGet2, miVal, miRange, miEnum, lS, lR, gVar, gTupD, gsCons, gsNil, shEnv, shIdx, inner, hideOwn, wipeE, kOf, frOf, fOut, List.getElem?_cons_zero, List.getElem?_cons_succ, List.getElem?_nil, List.set_cons_zero, List.set_cons_succ, List.map_cons, List.map_nil, List.length_cons, List.length_nil, Bool.false_eq_true, ↓reduceIte, Nat.reduceAdd, lc1, iterD, dTru, dIsaR, dIsa, dNot, cEqII, cNeII, cEqSS, cNeSS, cLtII, cLeII, cGtII, cGeII, cLtII', cLeII', bAdd, bSub, ixT0, ixL0, ixT1, ixL1, ixT2, ixL2, ixT3, biLenL, biLenT, Bool.not_true, Bool.not_false, Bool.true_and, Bool.false_and, Bool.and_true, Bool.and_false, hcut, ht, hc3]
  | succ n ih =>
    intro es hb hl
    have gt : ∀ i : Nat, i < 8 → ∃ x : Int, es[i]? = some x := fun i h => ⟨es[i]'(by omega), List.getElem?_eq_getElem _⟩
    obtain ⟨x0, h0⟩ := gt 0 (by decide)
    obtain ⟨x1, h1⟩ := gt 1 (by decide)
    obtain ⟨x2, h2⟩ := gt 2 (by decide)
    obtain ⟨x3, h3⟩ := gt 3 (by decide)
    obtain ⟨x4, h4⟩ := gt 4 (by decide)
    obtain ⟨x5, h5⟩ := gt 5 (by decide)
    have d0 : dIx (.list (es.map PyData.int)) (.int 0) = some (.int x0, false) := HC.ixD es 0 _ h0
    have d1 : dIx (.list (es.map PyData.int)) (.int 1) = some (.int x1, false) := HC.ixD es 1 _ h1
    have hn2 : ¬ (((n + 1 + 1 : Nat) : Int) < 2) := by omega
    have hn1 : (((n + 1 + 1 : Nat) : Int) - 1) = ((n + 1 : Nat) : Int) := by omega
    have m4 := bMod x0 4 (by decide)
    have hdrop : ∀ m : Nat, m ≤ 8 → (∀ e ∈ es.drop m, 0 ≤ e ∧ e < 420) ∧ 8 * n + 8 ≤ (es.drop m).length := fun m hm => ⟨fun e he => hb e (List.mem_of_mem_drop he), by rw [List.length_drop]; omega⟩
    by_cases q0 : x0 % 4 = 0
    · obtain ⟨t, ht, tr⟩ := p__law_condition (k + (n + 1)) bs ok (es.drop 1) x1 x2 x3 x4 x5 (by rw [List.getElem?_drop]; exact h1) (by rw [List.getElem?_drop]; exact h2) (by rw [List.getElem?_drop]; exact h3) (by rw [List.getElem?_drop]; exact h4) (by rw [List.getElem?_drop]; exact h5) (hb x4 (List.mem_of_getElem? h4))
      obtain ⟨ds, rfl, hl3, _⟩ := cut3 tr
      have up : ∀ (m : Nat) (t : D), Tr bs 2 t → Tr bs (m + 2) t := fun m t h => by
        induction m with
        | zero => exact h
        | succ m ih => exact tr_up ih
      refine ⟨.tuple ds, ?_, up (n + 1) _ tr⟩
      have hcut := cutD1 es 1
      have hc3 : dSl (.tuple ds) none (some 3) = some (.tuple ds, false) := by
        simp only [dSl]
        rw [show (3 : Int) = ((3 : Nat) : Int) from rfl, cutTake, List.take_of_length_le hl3]
      rw [c__law_tree]
      unfold b__law_tree
      rw [show ((1 : Nat) : Int) = 1 from rfl] at hcut
      simp only [mAug, miZip, seqOf, inSignR, ninSignR, eqNil, eqNilT, inStrsT, inStrsL, biAll, biAny, true_and, and_true, and_self, Int.reducePow, Int.reduceNeg, Int.reduceToNat, rangeD, List.cons_append, List.nil_append, List.length_append, bAddL, bAddT, bMod, bNeg, biList, biListT, biTup, biTupT, biMax, isnB, isB, mDct0, sizeLine, Nat.reducePow, Nat.reduceLeDiff, cond_true, cond_false, Bool.not_eq_true, Int.cast_ofNat_Int, decide_true, decide_false, Int.reduceEq, Int.reduceLT, Int.reduceLE, Int.reduceSub, Int.reduceAdd, beq_self_eq_true, mSeq, mRet, mVar, mConst, ev1, ev2, mBool, mTru, mIfS, mIf, mSet, mAsg, mPar2, mSortSet, mSetI, mMeth, mBi, mCall, mTup, mLst, mSl, mPart, mAnd, mOr, mNotT, vAnd, vOr, mSkip, mIfs, mChain, mLenSet, mSetL, mFn, mGet2, miVal, miRange, miEnum, lS, lR, gVar, gTupD, gsCons, gsNil, shEnv, shIdx, inner, hideOwn, wipeE, kOf, frOf, fOut, List.getElem?_cons_zero, List.getElem?_cons_succ, List.getElem?_nil, List.set_cons_zero, List.set_cons_succ, List.map_cons, List.map_nil, List.length_cons, List.length_nil, Bool.false_eq_true, ↓reduceIte, Nat.reduceAdd, lc1, iterD, dTru, dIsaR, dIsa, dNot, cEqII, cNeII, cEqSS, cNeSS, cLtII, cLeII, cGtII, cGeII, cLtII', cLeII', bAdd, bSub, ixT0, ixL0, ixT1, ixL1, ixT2, ixL2, ixT3, biLenL, biLenT, Bool.not_true, Bool.not_false, Bool.true_and, Bool.false_and, Bool.and_true, Bool.and_false, hn2, d0, m4, q0, hcut, ht, hc3]
    · by_cases q1 : x0 % 4 = 1
      · obtain ⟨t, ht, tr⟩ := ih (es.drop 5) (hdrop 5 (by decide)).1 (hdrop 5 (by decide)).2
        refine ⟨_, ?_, tr_not tr⟩
        have hcut := cutD1 es 5
        rw [show ((5 : Nat) : Int) = 5 from rfl] at hcut
        rw [c__law_tree]
        unfold b__law_tree
        rw [show k + n + 2 = k + (n + 1) + 1 by omega] at ht
        simp only [mAug, miZip, seqOf, inSignR, ninSignR, eqNil, eqNilT, inStrsT, inStrsL, biAll, biAny, true_and, and_true, and_self, Int.reducePow, Int.reduceNeg, Int.reduceToNat, rangeD, List.cons_append, List.nil_append, List.length_append, bAddL, bAddT, bMod, bNeg, biList, biListT, biTup, biTupT, biMax, isnB, isB, mDct0, sizeLine, Nat.reducePow, Nat.reduceLeDiff, cond_true, cond_false, Bool.not_eq_true, Int.cast_ofNat_Int, decide_true, decide_false, Int.reduceEq, Int.reduceLT, Int.reduceLE, Int.reduceSub, Int.reduceAdd, beq_self_eq_true, mSeq, mRet, mVar, mConst, ev1, ev2, mBool, mTru, mIfS, mIf, mSet, mAsg, mPar2, mSortSet, mSetI, mMeth, mBi, mCall, mTup, mLst, mSl, mPart, mAnd, mOr, mNotT, vAnd, vOr, mSkip, mIfs, mChain, mLenSet, mSetL, mFn, mGet2, miVal, miRange, miEnum, lS, lR, gVar, gTupD, gsCons, gsNil, shEnv, shIdx, inner, hideOwn, wipeE, kOf, frOf, fOut, List.getElem?_cons_zero, List.getElem?_cons_succ, List.getElem?_nil, List.set_cons_zero, List.set_cons_succ, List.map_cons, List.map_nil, List.length_cons, List.length_nil, Bool.false_eq_true, ↓reduceIte, Nat.reduceAdd, lc1, iterD, dTru, dIsaR, dIsa, dNot, cEqII, cNeII, cEqSS, cNeSS, cLtII, cLeII, cGtII, cGeII, cLtII', cLeII', bAdd, bSub, ixT0, ixL0, ixT1, ixL1, ixT2, ixL2, ixT3, biLenL, biLenT, Bool.not_true, Bool.not_false, Bool.true_and, Bool.false_and, Bool.and_true, Bool.and_false, hn2, d0, m4, q0, q1, hcut, hn1, ht]
      · obtain ⟨ta, hta, tra⟩ := ih (es.drop 5) (hdrop 5 (by decide)).1 (hdrop 5 (by decide)).2
        obtain ⟨tb, htb, trb⟩ := ih (es.drop 8) (hdrop 8 (by decide)).1 (hdrop 8 (by decide)).2
        rw [show k + n + 2 = k + (n + 1) + 1 by omega] at hta htb
        have hc5 := cutD1 es 5
        have hc8 := cutD1 es 8
        rw [show ((5 : Nat) : Int) = 5 from rfl] at hc5
        rw [show ((8 : Nat) : Int) = 8 from rfl] at hc8
        have m1 := bMod x1 2 (by decide)
        have m2 := bMod x0 2 (by decide)
        obtain ⟨w, hw1, _, hw2⟩ := ixMod (ds := [PyData.str "and", PyData.str "or"]) (i := x0) (by decide)
        simp only [List.length_cons, List.length_nil, Nat.reduceAdd, Int.cast_ofNat_Int] at hw2
        obtain ⟨w, rfl, hw⟩ : ∃ x : Str, w = .str x ∧ (x = "and" ∨ x = "or") := by
          simp only [List.mem_cons, List.not_mem_nil, or_false] at hw1
          rcases hw1 with rfl | rfl
          · exact ⟨_, rfl, .inl rfl⟩
          · exact ⟨_, rfl, .inr rfl⟩
        have e35 : (3 : Int) * 0 = 0 := rfl
        have hM0 : dBin .Mult (.int 3) (.int 0) = some (.int 0, false) := rfl
        have hM1 : dBin .Mult (.int 3) (.int 1) = some (.int 3, false) := rfl
        rcases (show x1 % 2 = 0 ∨ x1 % 2 = 1 by omega) with z | z
        · refine ⟨_, ?_, tr_two hw (ps := [ta]) (by simp) (by simp) fun p hp => by rw [List.mem_singleton.mp hp]; exact tra⟩
          have l : (List.range 1).map (fun i : Nat => PyData.int i) = [.int 0] := rfl
          rw [c__law_tree]
          unfold b__law_tree
          simp only [mAug, miZip, seqOf, inSignR, ninSignR, eqNil, eqNilT, inStrsT, inStrsL, biAll, biAny, true_and, and_true, and_self, Int.reducePow, Int.reduceNeg, Int.reduceToNat, rangeD, List.cons_append, List.nil_append, List.length_append, bAddL, bAddT, bMod, bNeg, biList, biListT, biTup, biTupT, biMax, isnB, isB, mDct0, sizeLine, Nat.reducePow, Nat.reduceLeDiff, cond_true, cond_false, Bool.not_eq_true, Int.cast_ofNat_Int, decide_true, decide_false, Int.reduceEq, Int.reduceLT, Int.reduceLE, Int.reduceSub, Int.reduceAdd, beq_self_eq_true, mSeq, mRet, mVar, mConst, ev1, ev2, mBool, mTru, mIfS, mIf, mSet, mAsg, mPar2, mSortSet, mSetI, mMeth, mBi, mCall, mTup, mLst, mSl, mPart, mAnd, mOr, mNotT, vAnd, vOr, mSkip, mIfs, mChain, mLenSet, mSetL, mFn, mGet2, miVal, miRange, miEnum, lS, lR, gVar, gTupD, gsCons, gsNil, shEnv, shIdx, inner, hideOwn, wipeE, kOf, frOf, fOut, List.getElem?_cons_zero, List.getElem?_cons_succ, List.getElem?_nil, List.set_cons_zero, List.set_cons_succ, List.map_cons, List.map_nil, List.length_cons, List.length_nil, Bool.false_eq_true, ↓reduceIte, Nat.reduceAdd, lc1, iterD, dTru, dIsaR, dIsa, dNot, cEqII, cNeII, cEqSS, cNeSS, cLtII, cLeII, cGtII, cGeII, cLtII', cLeII', bAdd, bSub, ixT0, ixL0, ixT1, ixL1, ixT2, ixL2, ixT3, biLenL, biLenT, Bool.not_true, Bool.not_false, Bool.true_and, Bool.false_and, Bool.and_true, Bool.and_false, hn2, d0, d1, m4, q0, q1, m1, m2, z, mLc, lcLoop, l, hM0, hM1, hc5, hc8, hn1, hta, htb, hw2]
        · refine ⟨_, ?_, tr_two hw (ps := [ta, tb]) (by simp) (by simp) fun p hp => by
            rcases List.mem_cons.mp hp with rfl | hp
            · exact tra
            · rw [List.mem_singleton.mp hp]; exact trb⟩
          have l : (List.range 2).map (fun i : Nat => PyData.int i) = [.int 0, .int 1] := rfl
          rw [c__law_tree]
          unfold b__law_tree
          simp only [mAug, miZip, seqOf, inSignR, ninSignR, eqNil, eqNilT, inStrsT, inStrsL, biAll, biAny, true_and, and_true, and_self, Int.reducePow, Int.reduceNeg, Int.reduceToNat, rangeD, List.cons_append, List.nil_append, List.length_append, bAddL, bAddT, bMod, bNeg, biList, biListT, biTup, biTupT, biMax, isnB, isB, mDct0, sizeLine, Nat.reducePow, Nat.reduceLeDiff, cond_true, cond_false, Bool.not_eq_true, Int.cast_ofNat_Int, decide_true, decide_false, Int.reduceEq, Int.reduceLT, Int.reduceLE, Int.reduceSub, Int.reduceAdd, beq_self_eq_true, mSeq, mRet, mVar, mConst, ev1, ev2, mBool, mTru, mIfS, mIf, mSet, mAsg, mPar2, mSortSet, mSetI, mMeth, mBi, mCall, mTup, mLst, mSl, mPart, mAnd, mOr, mNotT, vAnd, vOr, mSkip, mIfs, mChain, mLenSet, mSetL, mFn, mGet2, miVal, miRange, miEnum, lS, lR, gVar, gTupD, gsCons, gsNil, shEnv, shIdx, inner, hideOwn, wipeE, kOf, frOf, fOut, List.getElem?_cons_zero, List.getElem?_cons_succ, List.getElem?_nil, List.set_cons_zero, List.set_cons_succ, List.map_cons, List.map_nil, List.length_cons, List.length_nil, Bool.false_eq_true, ↓reduceIte, Nat.reduceAdd, lc1, iterD, dTru, dIsaR, dIsa, dNot, cEqII, cNeII, cEqSS, cNeSS, cLtII, cLeII, cGtII, cGeII, cLtII', cLeII', bAdd, bSub, ixT0, ixL0, ixT1, ixL1, ixT2, ixL2, ixT3, biLenL, biLenT, Bool.not_true, Bool.not_false, Bool.true_and, Bool.false_and, Bool.and_true, Bool.and_false, hn2, d0, d1, m4, q0, q1, m1, m2, z, mLc, lcLoop, l, hM0, hM1, hc5, hc8, hn1, hta, htb, hw2]
end K02
set_option Elab.async false
set_option linter.all false
set_option maxRecDepth 100000
set_option maxHeartbeats 1000000
set_option autoImplicit false
namespace K02
open PySem PySem.Spec PyProof.Rows L2 HC
theorem shws_mem {a b : Nat} : ∀ {ds : List D}, Shws a b ds → ∀ d ∈ ds, Shw a b d
  | [], _, d, hd => by cases hd
  | x :: ds, h, d, hd => by
    obtain ⟨h1, h2, h3⟩ := h
    simp only [PyData.showableAll, Bool.and_eq_true] at h1
    simp only [PyData.depthAll] at h2
    simp only [wszs] at h3
    rcases List.mem_cons.mp hd with rfl | hd
    · exact ⟨h1.1, by omega, by omega⟩
    · exact shws_mem ⟨h1.2, by omega, by omega⟩ d hd
theorem shw_tup {a b : Nat} {ds : List D} (h : Shw (a + 1) b (.tuple ds)) : Shws a b ds := by
  obtain ⟨h1, h2, h3⟩ := h
  simp only [PyData.showable] at h1
  simp only [PyData.depth] at h2
  simp only [wsz] at h3
  exact ⟨h1, by omega, by omega⟩
/-- small, and shown within bounds -/
structure Sb (a b : Nat) (d : D) : Prop where
  sm : small d = true
  sh : Shw a b d
theorem Sb.mono {a b a' b' : Nat} {d : D} (h : Sb a b d) (h1 : a ≤ a') (h2 : b ≤ b') : Sb a' b' d := ⟨h.sm, h.sh.mono h1 h2⟩
theorem sb_tup {a b n : Nat} {xs : List D} (hl : xs.length ≤ n) (hn : n < 4000) (h : ∀ x ∈ xs, Sb a b x) : Sb (a + 1) (n * (b + 2) + 3) (.tuple xs) :=
  ⟨small_mk (by omega) fun x hx => (h x hx).sm, (Shw.tuple (Shws.all fun x hx => (h x hx).sh)).mono (Nat.le_refl _) (by have := Nat.mul_le_mul_right (b + 2) hl; omega)⟩
theorem sb_lst {a b n : Nat} {xs : List D} (hl : xs.length ≤ n) (h : ∀ x ∈ xs, Sb a b x) : Sb (a + 1) (n * (b + 2) + 3) (.list xs) :=
  ⟨rfl, (Shw.list (Shws.all fun x hx => (h x hx).sh)).mono (Nat.le_refl _) (by have := Nat.mul_le_mul_right (b + 2) hl; omega)⟩
theorem tr_sb {bs : List Bx} {n : Nat} {t : D} (h : Tr bs n t) : Sb (2 * n + 4) (sz n) t := ⟨tr_small bs n t h, tr_shw bs n t h⟩
theorem sz_ge (n : Nat) : 240 ≤ sz n := by
  induction n with
  | zero => exact Nat.le_refl _
  | succ n ih => simp only [sz]; omega
theorem nin3 (w : Str) : dCmpR .NotIn (.str w) (.tuple [.str "not", .str "and", .str "or"]) = some (.bool (!((w == "not") || ((w == "and") || (w == "or")))), false) := by
  have h := ninStrsT w ["not", "and", "or"]
  simp only [List.map_cons, List.map_nil] at h
  rw [h]
  have e : ∀ x : Str, (x == w) = (w == x) := fun x => by
    cases q : (w == x) with
    | true => rw [eq_of_beq q]; exact beq_self_eq_true _
    | false =>
      cases q2 : (x == w) with
      | false => rfl
      | true => rw [eq_of_beq q2, beq_self_eq_true] at q; cases q
  simp [e]
/-- what stands where nothing is gone into -/
theorem bent_here {bs : List Bx} {n : Nat} {ds : List D} (h : Tr bs n (.tuple ds)) (o : D) (ho : Sb 2 40 o) (at_ : Nat) (r : D) (hr : r ∈ [.tuple (ds.take at_ ++ [o] ++ ds.drop (at_ + 1)), .tuple (ds ++ [o]), .tuple (HC.cutD ds none (some (-1))), .list ds, o]) : Sb (2 * n + 5) (5 * sz n) r := by
  have hs := tr_sb h
  have g := sz_ge n
  obtain ⟨ds', e, hl, _⟩ := cut3 h
  cases e
  have el : ∀ d ∈ ds, Sb (2 * n + 4) (sz n) d := fun d hd => ⟨small_tup hs.sm d hd, (shws_mem (shw_tup (a := 2 * n + 3) hs.sh) d hd).mono (by omega) (Nat.le_refl _)⟩
  have ho' : Sb (2 * n + 4) (sz n) o := ho.mono (by omega) (by omega)
  simp only [List.mem_cons, List.not_mem_nil, or_false] at hr
  rcases hr with rfl | rfl | rfl | rfl | rfl
  · refine (sb_tup (n := 4) (a := 2 * n + 4) (b := sz n) ?_ (by decide) fun x hx => ?_).mono (Nat.le_refl _) (by omega)
    · rw [List.length_append, List.length_append, List.length_take, List.length_drop, List.length_singleton]; omega
    · rcases List.mem_append.mp hx with hx | hx
      · rcases List.mem_append.mp hx with hx | hx
        · exact el x (List.mem_of_mem_take hx)
        · rw [List.mem_singleton.mp hx]; exact ho'
      · exact el x (List.mem_of_mem_drop hx)
  · refine (sb_tup (n := 4) (a := 2 * n + 4) (b := sz n) ?_ (by decide) fun x hx => ?_).mono (Nat.le_refl _) (by omega)
    · rw [List.length_append, List.length_singleton]; omega
    · rcases List.mem_append.mp hx with hx | hx
      · exact el x hx
      · rw [List.mem_singleton.mp hx]; exact ho'
  · refine (sb_tup (n := 4) (a := 2 * n + 4) (b := sz n) ?_ (by decide) fun x hx => ?_).mono (Nat.le_refl _) (by omega)
    · unfold HC.cutD
      rw [List.length_take, List.length_drop]; omega
    · unfold HC.cutD at hx
      exact el x (List.mem_of_mem_drop (List.mem_of_mem_take hx))
  · exact (sb_lst (n := 4) (by omega) el).mono (Nat.le_refl _) (by omega)
  · exact ho.mono (by omega) (by omega)
theorem p__law_within (bs : List Bx) (o : D) (ho : Sb 2 40 o) : ∀ (n k : Nat) (t : D) (es : List Int), Tr bs n t → 3 * n + 3 ≤ es.length → ∃ r, CF (k + n + 1) "_law_within" [t, .list (es.map PyData.int), o] = some (r, false) ∧ Sb (2 * n + 5) (5 * sz n) r := by
  have here : ∀ (k n : Nat) (w : Str) (ds : List D) (es : List Int), Tr bs n (.tuple (.str w :: ds)) → 3 ≤ es.length → ((∃ x, es[0]? = some x ∧ x % 3 = 0) ∨ ((w == "not") || ((w == "and") || (w == "or"))) = false) →
      ∃ r, CF (k + 1) "_law_within" [.tuple (.str w :: ds), .list (es.map PyData.int), o] = some (r, false) ∧ Sb (2 * n + 5) (5 * sz n) r := by
    intro k n w ds es tr hl hz
    obtain ⟨ds', e, hl3, hl1⟩ := cut3 tr
    cases e
    have gt : ∀ i : Nat, i < 3 → ∃ x : Int, es[i]? = some x := fun i h => ⟨es[i]'(by omega), List.getElem?_eq_getElem _⟩
    obtain ⟨x0, h0⟩ := gt 0 (by decide)
    obtain ⟨x1, h1⟩ := gt 1 (by decide)
    obtain ⟨x2, h2⟩ := gt 2 (by decide)
    have d0 : dIx (.list (es.map PyData.int)) (.int 0) = some (.int x0, false) := HC.ixD es 0 _ h0
    have d1 : dIx (.list (es.map PyData.int)) (.int 1) = some (.int x1, false) := HC.ixD es 1 _ h1
    have d2 : dIx (.list (es.map PyData.int)) (.int 2) = some (.int x2, false) := HC.ixD es 2 _ h2
    have m0 := bMod x0 3 (by decide)
    have hlI : (0 : Int) < (((.str w :: ds : List D).length : Nat) : Int) := by omega
    have m1 := bMod x1 _ hlI
    have m2 := bMod x2 5 (by decide)
    obtain ⟨j, hj⟩ := Int.eq_ofNat_of_zero_le (Int.emod_nonneg x1 (show (((.str w :: ds : List D).length : Nat) : Int) ≠ 0 by omega))
    rw [hj] at m1
    have c1 : dSl (.tuple (.str w :: ds)) none (some (j : Int)) = some (.tuple ((.str w :: ds : List D).take j), false) := by
      simp only [dSl]
      rw [cutTake]
    have c2 : dSl (.tuple (.str w :: ds)) (some ((j : Int) + 1)) none = some (.tuple ((.str w :: ds : List D).drop (j + 1)), false) := by
      simp only [dSl]
      rw [show (j : Int) + 1 = ((j + 1 : Nat) : Int) by omega, cutDrop]
    have c3 : dSl (.tuple (.str w :: ds)) none (some (-1)) = some (.tuple (HC.cutD (.str w :: ds) none (some (-1))), false) := rfl
    have l1 : ((.str w :: ds : List D).take j).length ≤ 4 := by rw [List.length_take]; omega
    have l2 : ((.str w :: ds : List D).drop (j + 1)).length ≤ 4 := by rw [List.length_drop]; omega
    have a1 : dBin .Add (.tuple ((.str w :: ds : List D).take j)) (.tuple [o]) = some (.tuple ((.str w :: ds : List D).take j ++ [o]), false) := bAddT _ _ (by rw [List.length_singleton]; omega)
    have a2 : dBin .Add (.tuple ((.str w :: ds : List D).take j ++ [o])) (.tuple ((.str w :: ds : List D).drop (j + 1))) = some (.tuple ((.str w :: ds : List D).take j ++ [o] ++ (.str w :: ds : List D).drop (j + 1)), false) := bAddT _ _ (by rw [List.length_append, List.length_singleton]; omega)
    have a3 : dBin .Add (.tuple (.str w :: ds)) (.tuple [o]) = some (.tuple ((.str w :: ds : List D) ++ [o]), false) := bAddT _ _ (by rw [List.length_singleton]; omega)
    obtain ⟨r, hr1, _, hr2⟩ := ixMod (ds := [.tuple ((.str w :: ds : List D).take j ++ [o] ++ (.str w :: ds : List D).drop (j + 1)), .tuple ((.str w :: ds : List D) ++ [o]), .tuple (HC.cutD (.str w :: ds) none (some (-1))), .list (.str w :: ds), o]) (i := x2) (by simp)
    refine ⟨r, ?_, bent_here tr o ho j r hr1⟩
    rw [c__law_within]
    unfold b__law_within
    generalize hT : (.str w :: ds : List D) = T at *
    generalize T.take j ++ [o] ++ T.drop (j + 1) = A1 at *
    generalize T.take j ++ [o] = A2 at *
    generalize T ++ [o] = A3 at *
    generalize HC.cutD T none (some (-1)) = A4 at *
    have i0 : dIx (.tuple T) (.int 0) = some (.str w, false) := by rw [← hT]; exact ixT0 _ _
    simp only [List.length_cons, List.length_nil, Nat.reduceAdd, Int.cast_ofNat_Int] at hr2
    by_cases q0 : x0 % 3 = 0
    · simp only [mAug, miZip, seqOf, inSignR, ninSignR, eqNil, eqNilT, inStrsT, inStrsL, biAll, biAny, true_and, and_true, and_self, Int.reducePow, Int.reduceNeg, Int.reduceToNat, rangeD, List.cons_append, List.nil_append, List.length_append, bAddL, bAddT, bMod, bNeg, biList, biListT, biTup, biTupT, biMax, isnB, isB, mDct0, sizeLine, Nat.reducePow, Nat.reduceLeDiff, cond_true, cond_false, Bool.not_eq_true, Int.cast_ofNat_Int, decide_true, decide_false, Int.reduceEq, Int.reduceLT, Int.reduceLE, Int.reduceSub, Int.reduceAdd, beq_self_eq_true, mSeq, mRet, mVar, mConst, ev1, ev2, mBool, mTru, mIfS, mIf, mSet, mAsg, mPar2, mSortSet, mSetI, mMeth, mBi, mCall, mTup, mLst, mSl, mPart, mAnd, mOr, mNotT, vAnd, vOr, mSkip, mIfs, mChain, mLenSet, mSetL, mFn, mGet2, miVal, miRange, miEnum, lS, lR, gVar, gTupD, gsCons, gsNil, shEnv, shIdx, inner, hideOwn, wipeE, kOf, frOf, fOut, List.getElem?_cons_zero, List.getElem?_cons_succ, List.getElem?_nil, List.set_cons_zero, List.set_cons_succ, List.map_cons, List.map_nil, List.length_cons, List.length_nil, Bool.false_eq_true, ↓reduceIte, Nat.reduceAdd, lc1, iterD, dTru, dIsaR, dIsa, dNot, cEqII, cNeII, cEqSS, cNeSS, cLtII, cLeII, cGtII, cGeII, cLtII', cLeII', bAdd, bSub, ixT0, ixL0, ixT1, ixL1, ixT2, ixL2, ixT3, biLenL, biLenT, Bool.not_true, Bool.not_false, Bool.true_and, Bool.false_and, Bool.and_true, Bool.and_false, d0, d1, d2, m0, q0, m1, m2, c1, c2, c3, a1, a2, a3, hr2]
    · have hw : ((w == "not") || ((w == "and") || (w == "or"))) = false := by
        rcases hz with ⟨x, hx, z⟩ | z
        · rw [h0] at hx; cases hx; exact absurd z q0
        · exact z
      simp only [mAug, miZip, seqOf, inSignR, ninSignR, eqNil, eqNilT, inStrsT, inStrsL, biAll, biAny, true_and, and_true, and_self, Int.reducePow, Int.reduceNeg, Int.reduceToNat, rangeD, List.cons_append, List.nil_append, List.length_append, bAddL, bAddT, bMod, bNeg, biList, biListT, biTup, biTupT, biMax, isnB, isB, mDct0, sizeLine, Nat.reducePow, Nat.reduceLeDiff, cond_true, cond_false, Bool.not_eq_true, Int.cast_ofNat_Int, decide_true, decide_false, Int.reduceEq, Int.reduceLT, Int.reduceLE, Int.reduceSub, Int.reduceAdd, beq_self_eq_true, mSeq, mRet, mVar, mConst, ev1, ev2, mBool, mTru, mIfS, mIf, mSet, mAsg, mPar2, mSortSet, mSetI, mMeth, mBi, mCall, mTup, mLst, mSl, mPart, mAnd, mOr, mNotT, vAnd, vOr, mSkip, mIfs, mChain, mLenSet, mSetL, mFn, mGet2, miVal, miRange, miEnum, lS, lR, gVar, gTupD, gsCons, gsNil, shEnv, shIdx, inner, hideOwn, wipeE, kOf, frOf, fOut, List.getElem?_cons_zero, List.getElem?_cons_succ, List.getElem?_nil, List.set_cons_zero, List.set_cons_succ, List.map_cons, List.map_nil, List.length_cons, List.length_nil, Bool.false_eq_true, ↓reduceIte, Nat.reduceAdd, lc1, iterD, dTru, dIsaR, dIsa, dNot, cEqII, cNeII, cEqSS, cNeSS, cLtII, cLeII, cGtII, cGeII, cLtII', cLeII', bAdd, bSub, ixT0, ixL0, ixT1, ixL1, ixT2, ixL2, ixT3, biLenL, biLenT, Bool.not_true, Bool.not_false, Bool.true_and, Bool.false_and, Bool.and_true, Bool.and_false, d0, d1, d2, m0, q0, i0, nin3, hw, m1, m2, c1, c2, c3, a1, a2, a3, hr2]
  intro n
  induction n with
  | zero =>
    intro k t es tr hl
    obtain ⟨w, ds, rfl, e1, e2, _⟩ := id tr
    exact here k 0 w ds es tr (by omega) (.inr (by rw [e1, e2]; rfl))
  | succ n ih =>
    intro k t es tr hl
    have gt : ∀ i : Nat, i < 3 → ∃ x : Int, es[i]? = some x := fun i h => ⟨es[i]'(by omega), List.getElem?_eq_getElem _⟩
    obtain ⟨x0, h0⟩ := gt 0 (by decide)
    obtain ⟨x1, h1⟩ := gt 1 (by decide)
    have d0 : dIx (.list (es.map PyData.int)) (.int 0) = some (.int x0, false) := HC.ixD es 0 _ h0
    have d1 : dIx (.list (es.map PyData.int)) (.int 1) = some (.int x1, false) := HC.ixD es 1 _ h1
    have m0 := bMod x0 3 (by decide)
    have hc := cutD1 es 3
    rw [show ((3 : Nat) : Int) = 3 from rfl] at hc
    have hdl : 3 * n + 3 ≤ (es.drop 3).length := by rw [List.length_drop]; omega
    have g := sz_ge n
    rcases id tr with h | ⟨x, rfl, h⟩ | ⟨w, ps, hw, rfl, p1, p2, h⟩
    · obtain ⟨r, h1, h2⟩ := ih (k + 1) t es h (by omega)
      rw [show k + 1 + n + 1 = k + (n + 1) + 1 by omega] at h1
      exact ⟨r, h1, h2.mono (by omega) (by simp only [sz]; omega)⟩
    · by_cases q0 : x0 % 3 = 0
      · exact here (k + (n + 1)) (n + 1) _ _ es tr (by omega) (.inl ⟨x0, h0, q0⟩)
      · obtain ⟨r, r1, r2⟩ := ih k x (es.drop 3) h hdl
        refine ⟨.tuple [.str "not", r], ?_, ?_⟩
        · have en : (("not" : Str) == "not") = true := beq_self_eq_true _
          rw [c__law_within]
          unfold b__law_within
          rw [show k + n + 1 = k + (n + 1) by omega] at r1
          simp only [mAug, miZip, seqOf, inSignR, ninSignR, eqNil, eqNilT, inStrsT, inStrsL, biAll, biAny, true_and, and_true, and_self, Int.reducePow, Int.reduceNeg, Int.reduceToNat, rangeD, List.cons_append, List.nil_append, List.length_append, bAddL, bAddT, bMod, bNeg, biList, biListT, biTup, biTupT, biMax, isnB, isB, mDct0, sizeLine, Nat.reducePow, Nat.reduceLeDiff, cond_true, cond_false, Bool.not_eq_true, Int.cast_ofNat_Int, decide_true, decide_false, Int.reduceEq, Int.reduceLT, Int.reduceLE, Int.reduceSub, Int.reduceAdd, beq_self_eq_true, mSeq, mRet, mVar, mConst, ev1, ev2, mBool, mTru, mIfS, mIf, mSet, mAsg, mPar2, mSortSet, mSetI, mMeth, mBi, mCall, mTup, mLst, mSl, mPart, mAnd, mOr, mNotT, vAnd, vOr, mSkip, mIfs, mChain, mLenSet, mSetL, mFn, mGet2, miVal, miRange, miEnum, lS, lR, gVar, gTupD, gsCons, gsNil, shEnv, shIdx, inner, hideOwn, wipeE, kOf, frOf, fOut, List.getElem?_cons_zero, List.getElem?_cons_succ, List.getElem?_nil, List.set_cons_zero, List.set_cons_succ, List.map_cons, List.map_nil, List.length_cons, List.length_nil, Bool.false_eq_true, ↓reduceIte, Nat.reduceAdd, lc1, iterD, dTru, dIsaR, dIsa, dNot, cEqII, cNeII, cEqSS, cNeSS, cLtII, cLeII, cGtII, cGeII, cLtII', cLeII', bAdd, bSub, ixT0, ixL0, ixT1, ixL1, ixT2, ixL2, ixT3, biLenL, biLenT, Bool.not_true, Bool.not_false, Bool.true_and, Bool.false_and, Bool.and_true, Bool.and_false, d0, m0, q0, nin3, en, Bool.true_or, hc, r1]
        · exact (sb_tup (n := 2) (a := 2 * n + 5) (b := 5 * sz n) (Nat.le_refl _) (by decide) fun y hy => by
            rcases List.mem_cons.mp hy with rfl | hy
            · exact ⟨rfl, (wd (by simp)).mono (by omega) (by omega)⟩
            · rw [List.mem_singleton.mp hy]; exact r2).mono (by omega) (by simp only [sz]; omega)
    · by_cases q0 : x0 % 3 = 0
      · exact here (k + (n + 1)) (n + 1) _ _ es tr (by omega) (.inl ⟨x0, h0, q0⟩)
      · have hlI : (0 : Int) < ((ps.length : Nat) : Int) := by omega
        have m1 := bMod x1 _ hlI
        obtain ⟨j, hj⟩ := Int.eq_ofNat_of_zero_le (Int.emod_nonneg x1 (show ((ps.length : Nat) : Int) ≠ 0 by omega))
        have hjl : j < ps.length := by have := Int.emod_lt_of_pos x1 hlI; omega
        rw [hj] at m1
        have hp : ps[j]? = some ps[j] := List.getElem?_eq_getElem hjl
        have hpi : dIx (.tuple ps) (.int (j : Int)) = some (ps[j], false) := eIxT hp
        obtain ⟨r, r1, r2⟩ := ih k ps[j] (es.drop 3) (h _ (List.getElem_mem hjl)) hdl
        rw [show k + n + 1 = k + (n + 1) by omega] at r1
        have c1 : dSl (.tuple ps) none (some (j : Int)) = some (.tuple (ps.take j), false) := by
          simp only [dSl]
          rw [cutTake]
        have c2 : dSl (.tuple ps) (some ((j : Int) + 1)) none = some (.tuple (ps.drop (j + 1)), false) := by
          simp only [dSl]
          rw [show (j : Int) + 1 = ((j + 1 : Nat) : Int) by omega, cutDrop]
        have l1 : (ps.take j).length ≤ 4 := by rw [List.length_take]; omega
        have l2 : (ps.drop (j + 1)).length ≤ 4 := by rw [List.length_drop]; omega
        have a1 : dBin .Add (.tuple (ps.take j)) (.tuple [r]) = some (.tuple (ps.take j ++ [r]), false) := bAddT _ _ (by rw [List.length_singleton]; omega)
        have a2 : dBin .Add (.tuple (ps.take j ++ [r])) (.tuple (ps.drop (j + 1))) = some (.tuple (ps.take j ++ [r] ++ ps.drop (j + 1)), false) := bAddT _ _ (by rw [List.length_append, List.length_singleton]; omega)
        refine ⟨.tuple [.str w, .tuple (ps.take j ++ [r] ++ ps.drop (j + 1))], ?_, ?_⟩
        · have en : (w == "not") = false := by rcases hw with rfl | rfl <;> decide +kernel
          have en2 : ((w == "and") || (w == "or")) = true := by rcases hw with rfl | rfl <;> decide +kernel
          rw [c__law_within]
          unfold b__law_within
          generalize ps.take j ++ [r] ++ ps.drop (j + 1) = A1 at *
          generalize ps.take j ++ [r] = A2 at *
          simp only [mAug, miZip, seqOf, inSignR, ninSignR, eqNil, eqNilT, inStrsT, inStrsL, biAll, biAny, true_and, and_true, and_self, Int.reducePow, Int.reduceNeg, Int.reduceToNat, rangeD, List.cons_append, List.nil_append, List.length_append, bAddL, bAddT, bMod, bNeg, biList, biListT, biTup, biTupT, biMax, isnB, isB, mDct0, sizeLine, Nat.reducePow, Nat.reduceLeDiff, cond_true, cond_false, Bool.not_eq_true, Int.cast_ofNat_Int, decide_true, decide_false, Int.reduceEq, Int.reduceLT, Int.reduceLE, Int.reduceSub, Int.reduceAdd, beq_self_eq_true, mSeq, mRet, mVar, mConst, ev1, ev2, mBool, mTru, mIfS, mIf, mSet, mAsg, mPar2, mSortSet, mSetI, mMeth, mBi, mCall, mTup, mLst, mSl, mPart, mAnd, mOr, mNotT, vAnd, vOr, mSkip, mIfs, mChain, mLenSet, mSetL, mFn, mGet2, miVal, miRange, miEnum, lS, lR, gVar, gTupD, gsCons, gsNil, shEnv, shIdx, inner, hideOwn, wipeE, kOf, frOf, fOut, List.getElem?_cons_zero, List.getElem?_cons_succ, List.getElem?_nil, List.set_cons_zero, List.set_cons_succ, List.map_cons, List.map_nil, List.length_cons, List.length_nil, Bool.false_eq_true, ↓reduceIte, Nat.reduceAdd, lc1, iterD, dTru, dIsaR, dIsa, dNot, cEqII, cNeII, cEqSS, cNeSS, cLtII, cLeII, cGtII, cGeII, cLtII', cLeII', bAdd, bSub, ixT0, ixL0, ixT1, ixL1, ixT2, ixL2, ixT3, biLenL, biLenT, Bool.not_true, Bool.not_false, Bool.true_and, Bool.false_and, Bool.and_true, Bool.and_false, d0, d1, m0, q0, nin3, en, en2, Bool.false_or, cEqSS, m1, hpi, hc, r1, c1, c2, a1, a2]
        · have inner : Sb (2 * n + 6) (3 * (5 * sz n + 2) + 3) (.tuple (ps.take j ++ [r] ++ ps.drop (j + 1))) := sb_tup (n := 3) (a := 2 * n + 5) (b := 5 * sz n) (by rw [List.length_append, List.length_append, List.length_take, List.length_drop, List.length_singleton]; omega) (by decide) fun y hy => by
            have el : ∀ y ∈ ps, Sb (2 * n + 5) (5 * sz n) y := fun y hy => (tr_sb (h y hy)).mono (by omega) (by omega)
            rcases List.mem_append.mp hy with hy | hy
            · rcases List.mem_append.mp hy with hy | hy
              · exact el y (List.mem_of_mem_take hy)
              · rw [List.mem_singleton.mp hy]; exact r2
            · exact el y (List.mem_of_mem_drop hy)
          have sw : Shw (2 * n + 6) 8 (.str w) := by
            rcases hw with rfl | rfl <;> exact (wd (by simp)).mono (by omega) (Nat.le_refl _)
          refine ⟨small_mk (by simp) fun y hy => ?_, (Shw.pair sw inner.sh).mono (by omega) (by simp only [sz]; omega)⟩
          rcases List.mem_cons.mp hy with rfl | hy
          · rfl
          · rw [List.mem_singleton.mp hy]; exact inner.sm
end K02
set_option Elab.async false
set_option linter.all false
set_option maxRecDepth 100000
set_option maxHeartbeats 1000000
set_option autoImplicit false
namespace K02
open PySem PySem.Spec PyProof.Rows L2 HC
theorem sb_pair {a b c : Nat} {x y : D} (h : Sb a b x) (h2 : Sb a c y) : Sb (a + 1) (b + c + 7) (.tuple [x, y]) :=
  ⟨small_mk (by simp) fun d hd => by
    rcases List.mem_cons.mp hd with rfl | hd
    · exact h.sm
    · rw [List.mem_singleton.mp hd]; exact h2.sm, Shw.pair h.sh h2.sh⟩
theorem sb_one {a b : Nat} {x : D} (h : Sb a b x) : Sb (a + 1) (b + 5) (.tuple [x]) :=
  ⟨small_mk (by simp) fun d hd => by rw [List.mem_singleton.mp hd]; exact h.sm, Shw.one h.sh⟩
theorem sb_wd {w : Str} (a : Nat) (h : w ∈ (["yes", "is", "like", "among", "not", "and", "or", "zz", "A", "no"] : List Str)) : Sb a 8 (.str w) := ⟨rfl, (wd h).mono (by omega) (Nat.le_refl _)⟩
theorem p__law_deep (k m : Nat) (hm : m ≤ 8) (d : D) (hd : Sb 1 40 d) : ∃ r, CF (k + 1) "_law_deep" [.int (m : Int), d] = some (r, false) ∧ Sb 17 400 r := by
  have hA : (m : Int) ≤ 16777216 := by omega
  have hB : -4611686018427387904 ≤ (m : Int) := by omega
  rw [c__law_deep]
  unfold b__law_deep
  simp only [mAug, miZip, seqOf, inSignR, ninSignR, eqNil, eqNilT, inStrsT, inStrsL, biAll, biAny, true_and, and_true, and_self, Int.reducePow, Int.reduceNeg, Int.reduceToNat, rangeD, List.cons_append, List.nil_append, List.length_append, bAddL, bAddT, bMod, bNeg, biList, biListT, biTup, biTupT, biMax, isnB, isB, mDct0, sizeLine, Nat.reducePow, Nat.reduceLeDiff, cond_true, cond_false, Bool.not_eq_true, Int.cast_ofNat_Int, decide_true, decide_false, Int.reduceEq, Int.reduceLT, Int.reduceLE, Int.reduceSub, Int.reduceAdd, beq_self_eq_true, mSeq, mRet, mVar, mConst, ev1, ev2, mBool, mTru, mIfS, mIf, mSet, mAsg, mPar2, mSortSet, mSetI, mMeth, mBi, mCall, mTup, mLst, mSl, mPart, mAnd, mOr, mNotT, vAnd, vOr, mSkip, mIfs, mChain, mLenSet, mSetL, mFn, mGet2, miVal, miRange, miEnum, lS, lR, gVar, gTupD, gsCons, gsNil, shEnv, shIdx, inner, hideOwn, wipeE, kOf, frOf, fOut, List.getElem?_cons_zero, List.getElem?_cons_succ, List.getElem?_nil, List.set_cons_zero, List.set_cons_succ, List.map_cons, List.map_nil, List.length_cons, List.length_nil, Bool.false_eq_true, ↓reduceIte, Nat.reduceAdd, lc1, iterD, dTru, dIsaR, dIsa, dNot, cEqII, cNeII, cEqSS, cNeSS, cLtII, cLeII, cGtII, cGeII, cLtII', cLeII', bAdd, bSub, ixT0, ixL0, ixT1, ixL1, ixT2, ixL2, ixT3, biLenL, biLenT, Bool.not_true, Bool.not_false, Bool.true_and, Bool.false_and, Bool.and_true, Bool.and_false, ]
  obtain ⟨e', g1, r, s3, he, hr⟩ := forN (f := fun i : Nat => PyData.int i) (mi := i__law_deep_l1 (CF k)) (asg := g__law_deep_l1) (body := b__law_deep_l1 (CF k))
    (env := [some ⟨.int (m : Int), false⟩, some ⟨d, false⟩, some ⟨d, false⟩, none]) (e0 := [some ⟨.int (m : Int), false⟩, some ⟨d, false⟩, some ⟨d, false⟩, none])
    (fun done e => ∃ r s3, e = [some ⟨.int (m : Int), false⟩, some ⟨d, false⟩, some ⟨r, false⟩, s3] ∧ Sb (2 * done.length + 1) (40 * done.length + 40) r) (List.range m)
    (by
      unfold i__law_deep_l1
      simp only [mAug, miZip, seqOf, inSignR, ninSignR, eqNil, eqNilT, inStrsT, inStrsL, biAll, biAny, true_and, and_true, and_self, Int.reducePow, Int.reduceNeg, Int.reduceToNat, rangeD, List.cons_append, List.nil_append, List.length_append, bAddL, bAddT, bMod, bNeg, biList, biListT, biTup, biTupT, biMax, isnB, isB, mDct0, sizeLine, Nat.reducePow, Nat.reduceLeDiff, cond_true, cond_false, Bool.not_eq_true, Int.cast_ofNat_Int, decide_true, decide_false, Int.reduceEq, Int.reduceLT, Int.reduceLE, Int.reduceSub, Int.reduceAdd, beq_self_eq_true, mSeq, mRet, mVar, mConst, ev1, ev2, mBool, mTru, mIfS, mIf, mSet, mAsg, mPar2, mSortSet, mSetI, mMeth, mBi, mCall, mTup, mLst, mSl, mPart, mAnd, mOr, mNotT, vAnd, vOr, mSkip, mIfs, mChain, mLenSet, mSetL, mFn, mGet2, miVal, miRange, miEnum, lS, lR, gVar, gTupD, gsCons, gsNil, shEnv, shIdx, inner, hideOwn, wipeE, kOf, frOf, fOut, List.getElem?_cons_zero, List.getElem?_cons_succ, List.getElem?_nil, List.set_cons_zero, List.set_cons_succ, List.map_cons, List.map_nil, List.length_cons, List.length_nil, Bool.false_eq_true, ↓reduceIte, Nat.reduceAdd, lc1, iterD, dTru, dIsaR, dIsa, dNot, cEqII, cNeII, cEqSS, cNeSS, cLtII, cLeII, cGtII, cGeII, cLtII', cLeII', bAdd, bSub, ixT0, ixL0, ixT1, ixL1, ixT2, ixL2, ixT3, biLenL, biLenT, Bool.not_true, Bool.not_false, Bool.true_and, Bool.false_and, Bool.and_true, Bool.and_false, hA, hB, Int.toNat_natCast]) ⟨d, none, rfl, hd⟩ fun i done rest e hdn ⟨r, s3, he, hr⟩ => by
      subst he
      have m3 := bMod (i : Int) 3 (by decide)
      obtain ⟨t, ht, _, hi⟩ := ixMod (ds := [.tuple [.str "not", r], .tuple [.str "and", .tuple [r, .tuple [.str "yes"]]], .tuple [.str "or", .tuple [r]]]) (i := (i : Int)) (by simp)
      simp only [List.length_cons, List.length_nil, Nat.reduceAdd, Int.cast_ofNat_Int] at hi
      unfold b__law_deep_l1
      simp only [mAug, miZip, seqOf, inSignR, ninSignR, eqNil, eqNilT, inStrsT, inStrsL, biAll, biAny, true_and, and_true, and_self, Int.reducePow, Int.reduceNeg, Int.reduceToNat, rangeD, List.cons_append, List.nil_append, List.length_append, bAddL, bAddT, bMod, bNeg, biList, biListT, biTup, biTupT, biMax, isnB, isB, mDct0, sizeLine, Nat.reducePow, Nat.reduceLeDiff, cond_true, cond_false, Bool.not_eq_true, Int.cast_ofNat_Int, decide_true, decide_false, Int.reduceEq, Int.reduceLT, Int.reduceLE, Int.reduceSub, Int.reduceAdd, beq_self_eq_true, mSeq, mRet, mVar, mConst, ev1, ev2, mBool, mTru, mIfS, mIf, mSet, mAsg, mPar2, mSortSet, mSetI, mMeth, mBi, mCall, mTup, mLst, mSl, mPart, mAnd, mOr, mNotT, vAnd, vOr, mSkip, mIfs, mChain, mLenSet, mSetL, mFn, mGet2, miVal, miRange, miEnum, lS, lR, gVar, gTupD, gsCons, gsNil, shEnv, shIdx, inner, hideOwn, wipeE, kOf, frOf, fOut, List.getElem?_cons_zero, List.getElem?_cons_succ, List.getElem?_nil, List.set_cons_zero, List.set_cons_succ, List.map_cons, List.map_nil, List.length_cons, List.length_nil, Bool.false_eq_true, ↓reduceIte, Nat.reduceAdd, lc1, iterD, dTru, dIsaR, dIsa, dNot, cEqII, cNeII, cEqSS, cNeSS, cLtII, cLeII, cGtII, cGeII, cLtII', cLeII', bAdd, bSub, ixT0, ixL0, ixT1, ixL1, ixT2, ixL2, ixT3, biLenL, biLenT, Bool.not_true, Bool.not_false, Bool.true_and, Bool.false_and, Bool.and_true, Bool.and_false, NxA, m3, hi, NxI]
      refine ⟨t, _, rfl, ?_⟩
      simp only [List.mem_cons, List.not_mem_nil, or_false] at ht
      rcases ht with rfl | rfl | rfl
      · exact (sb_pair (sb_wd _ (by simp)) hr).mono (by omega) (by omega)
      · exact (sb_pair (sb_wd _ (by simp)) (sb_pair hr ((sb_one (sb_wd 0 (w := "yes") (by simp))).mono (by omega) (Nat.le_refl _)))).mono (by omega) (by omega)
      · exact (sb_pair (sb_wd _ (by simp)) (sb_one hr)).mono (by omega) (by omega)
  subst he
  rw [g1]
  rw [List.length_range] at hr
  refine ⟨r, ?_, hr.mono (by omega) (by omega)⟩
  simp only [mAug, miZip, seqOf, inSignR, ninSignR, eqNil, eqNilT, inStrsT, inStrsL, biAll, biAny, true_and, and_true, and_self, Int.reducePow, Int.reduceNeg, Int.reduceToNat, rangeD, List.cons_append, List.nil_append, List.length_append, bAddL, bAddT, bMod, bNeg, biList, biListT, biTup, biTupT, biMax, isnB, isB, mDct0, sizeLine, Nat.reducePow, Nat.reduceLeDiff, cond_true, cond_false, Bool.not_eq_true, Int.cast_ofNat_Int, decide_true, decide_false, Int.reduceEq, Int.reduceLT, Int.reduceLE, Int.reduceSub, Int.reduceAdd, beq_self_eq_true, mSeq, mRet, mVar, mConst, ev1, ev2, mBool, mTru, mIfS, mIf, mSet, mAsg, mPar2, mSortSet, mSetI, mMeth, mBi, mCall, mTup, mLst, mSl, mPart, mAnd, mOr, mNotT, vAnd, vOr, mSkip, mIfs, mChain, mLenSet, mSetL, mFn, mGet2, miVal, miRange, miEnum, lS, lR, gVar, gTupD, gsCons, gsNil, shEnv, shIdx, inner, hideOwn, wipeE, kOf, frOf, fOut, List.getElem?_cons_zero, List.getElem?_cons_succ, List.getElem?_nil, List.set_cons_zero, List.set_cons_succ, List.map_cons, List.map_nil, List.length_cons, List.length_nil, Bool.false_eq_true, ↓reduceIte, Nat.reduceAdd, lc1, iterD, dTru, dIsaR, dIsa, dNot, cEqII, cNeII, cEqSS, cNeSS, cLtII, cLeII, cGtII, cGeII, cLtII', cLeII', bAdd, bSub, ixT0, ixL0, ixT1, ixL1, ixT2, ixL2, ixT3, biLenL, biLenT, Bool.not_true, Bool.not_false, Bool.true_and, Bool.false_and, Bool.and_true, Bool.and_false, ]
end K02
set_option Elab.async false
set_option linter.all false
set_option maxRecDepth 100000
set_option maxHeartbeats 1000000
set_option autoImplicit false
namespace K02
open PySem PySem.Spec PyProof.Rows L2 HC
theorem sb_am {a b : Nat} {w : Str} {x y : D} (hb : 8 ≤ b) (hw : w ∈ (["yes", "is", "like", "among", "not", "and", "or", "zz", "A", "no"] : List Str)) (h : Sb a b x) (h2 : Sb a b y) : Sb (a + 1) (3 * (b + 2) + 3) (.tuple [.str w, x, y]) :=
  ⟨sm3 rfl h.sm h2.sm, sh3 ((wd hw).mono (by omega) hb) h.sh h2.sh⟩
theorem odd_sb {o : D} (h : o ∈ oddL) : Sb 2 40 o := by
  refine ⟨?_, oddL_shw h⟩
  have : ∀ o ∈ oddL, small o = true := by decide +kernel
  exact this o h
theorem bxOk_of {bs : List Bx} (ok : BsOk bs) : ∀ b ∈ bs, BxOk b := fun b hb => ⟨by have := ok.sz b hb; omega, by have := ok.sz b hb; omega⟩
theorem prod3 {bs : List Bx} (ok : BsOk bs) : prodB bs ≤ 27 := by
  have l := ok.len
  have z := ok.sz
  match bs, l, z with
  | [], _, _ => decide
  | [a], _, z =>
    have h1 := z a (by simp)
    show 1 * a.size ≤ 27
    omega
  | [a, b], _, z =>
    have h1 := z a (by simp)
    have h2 := z b (by simp)
    show 1 * a.size * b.size ≤ 27
    have : a.size = 2 ∨ a.size = 3 := by omega
    rcases this with e | e <;> rw [e] <;> omega
  | [a, b, c], _, z =>
    have h1 := z a (by simp)
    have h2 := z b (by simp)
    have h3 := z c (by simp)
    show 1 * a.size * b.size * c.size ≤ 27
    have e1 : a.size = 2 ∨ a.size = 3 := by omega
    have e2 : b.size = 2 ∨ b.size = 3 := by omega
    rcases e1 with e | e <;> rcases e2 with e' | e' <;> rw [e, e'] <;> omega
theorem ext_rng {f : List (List Int)} {n : Int} (hn : n ≤ 12) (h : ∀ ws ∈ f, ∀ i ∈ ws, 0 ≤ i ∧ i < 12) : ∀ ws ∈ ext f n, ∀ i ∈ ws, 0 ≤ i ∧ i < 12 := fun ws hw i hi => by
  unfold ext at hw
  obtain ⟨vs, hv, hw⟩ := List.mem_flatMap.mp hw
  obtain ⟨j, hj, rfl⟩ := List.mem_map.mp hw
  rcases List.mem_append.mp hi with hi | hi
  · exact h vs hv i hi
  · rw [List.mem_singleton.mp hi]
    have := List.mem_range.mp hj
    omega
theorem allB_rng (bs : List Bx) (hb : ∀ b ∈ bs, BxOk b) : ∀ ws ∈ allB bs, ∀ i ∈ ws, 0 ≤ i ∧ i < 12 := by
  have : ∀ (bs : List Bx) (f : List (List Int)), (∀ b ∈ bs, BxOk b) → (∀ ws ∈ f, ∀ i ∈ ws, 0 ≤ i ∧ i < 12) → ∀ ws ∈ bs.foldl (fun f b => ext f b.size) f, ∀ i ∈ ws, 0 ≤ i ∧ i < 12 := by
    intro bs
    induction bs with
    | nil => intro f _ h; exact h
    | cons b bs ih =>
      intro f hb h
      exact ih (ext f b.size) (fun x hx => hb x (List.mem_cons_of_mem _ hx)) (ext_rng (hb b (List.mem_cons_self ..)).hi h)
  exact this bs [[]] hb fun ws hw i hi => by
    rw [List.mem_singleton.mp hw] at hi
    cases hi
theorem wTup_sb {ws : List Int} (hl : ws.length ≤ 3) (h : ∀ i ∈ ws, 0 ≤ i ∧ i < 12) : Sb 1 21 (wTup ws) := by
  unfold wTup
  refine (sb_tup (n := 3) (a := 0) (b := 4) (by rw [List.length_map]; exact hl) (by decide) fun d hd => ?_).mono (Nat.le_refl _) (by decide)
  obtain ⟨i, hi, rfl⟩ := List.mem_map.mp hd
  exact ⟨rfl, Shw.int (h i hi).1 (by have := (h i hi).2; omega)⟩
theorem p__law_rows (k : Nat) (bs : List Bx) (ok : BsOk bs) (es : List Int) (x0 x1 : Int) (h0 : es[0]? = some x0) (h1 : es[1]? = some x1) : ∃ L, CF (k + 2) "_law_rows" [.list (bs.map Bx.d), .list (es.map PyData.int)] = some (.list L, true) ∧ L.length ≤ 100 ∧ ∀ t ∈ L, Sb 5 3000 t := by
  have hne : 0 < bs.length := List.length_pos_iff.mpr ok.ne
  have hneI : (0 : Int) < (bs.length : Int) := by omega
  have hl3 := ok.len
  obtain ⟨b, hb, i0⟩ := box_at bs x0 hne
  have d0 : dIx (.list (es.map PyData.int)) (.int 0) = some (.int x0, false) := HC.ixD es 0 _ h0
  have d1 : dIx (.list (es.map PyData.int)) (.int 1) = some (.int x1, false) := HC.ixD es 1 _ h1
  have m0 := bMod x0 _ hneI
  obtain ⟨o, ho, no⟩ := p__law_odd k x1
  have so := odd_sb ho
  obtain ⟨fr, na⟩ := p__law_all k bs (bxOk_of ok) (by have := prod3 ok; omega) (by omega)
  have hal := allB_len bs (bxOk_of ok)
  have hp3 := prod3 ok
  have sn : Sb 0 8 (.str b.name) := ⟨rfl, nmS ok hb⟩
  have every : Sb 4 500 (.tuple (bs.map fun b => PyData.str b.name)) := (sb_tup (n := 3) (a := 0) (b := 8) (by rw [List.length_map]; exact hl3) (by decide) fun d hd => by
    obtain ⟨c, hc, rfl⟩ := List.mem_map.mp hd
    exact ⟨rfl, nmS ok hc⟩).mono (by decide) (by decide)
  have everyR : Sb 4 500 (.tuple (bs.map fun b => PyData.str b.name).reverse) := (sb_tup (n := 3) (a := 0) (b := 8) (by rw [List.length_reverse, List.length_map]; exact hl3) (by decide) fun d hd => by
    obtain ⟨c, hc, rfl⟩ := List.mem_map.mp (List.mem_reverse.mp hd)
    exact ⟨rfl, nmS ok hc⟩).mono (by decide) (by decide)
  have alls : Sb 4 700 (.tuple ((allB bs).map wTup)) := (sb_tup (n := 27) (a := 1) (b := 21) (by rw [List.length_map]; omega) (by decide) fun d hd => by
    obtain ⟨ws, hw, rfl⟩ := List.mem_map.mp hd
    exact wTup_sb (by rw [allB_each bs ws hw]; exact hl3) (allB_rng bs (bxOk_of ok) ws hw)).mono (by decide) (by decide)
  have zer : Sb 4 700 (.tuple [.tuple (List.replicate bs.length (.int 0))]) := ((sb_one (sb_tup (n := 3) (a := 0) (b := 4) (xs := List.replicate bs.length (.int 0)) (by rw [List.length_replicate]; exact hl3) (by decide) fun d hd => by
    rw [(List.mem_replicate.mp hd).2]
    exact ⟨rfl, Shw.int (by decide) (by decide)⟩))).mono (by decide) (by decide)
  have hmul : dBin .Mult (.tuple [.int 0]) (.int (bs.length : Int)) = some (.tuple (List.replicate bs.length (.int 0)), false) := by
    have : bs.length = 1 ∨ bs.length = 2 ∨ bs.length = 3 := by omega
    rcases this with e | e | e <;> rw [e] <;> rfl
  have hrev : ∀ ds : List D, dRev (.tuple ds) = some (.tuple ds.reverse, false) := fun ds => rfl
  have am : ∀ {x y : D}, Sb 4 700 x → Sb 4 700 y → Sb 5 3000 (.tuple [.str "among", x, y]) := fun hx hy => (sb_am (by decide) (by simp) hx hy).mono (Nat.le_refl _) (by decide)
  have lit : ∀ d : D, shwB 2 60 d = true → small d = true → Sb 4 700 d := fun d h1 h2 => ⟨h2, (Shw.of_b h1).mono (by decide) (by decide)⟩
  have n1 : Sb 4 700 (.tuple [.str b.name]) := (sb_one sn).mono (by decide) (by decide)
  have n2 : Sb 4 700 (.tuple [.str b.name, .str b.name]) := (sb_pair sn sn).mono (by decide) (by decide)
  have n3 : Sb 4 700 (.tuple [o]) := (sb_one so).mono (by decide) (by decide)
  have n4 : Sb 4 700 (.list [.str b.name]) := (sb_lst (n := 1) (Nat.le_refl _) fun d hd => by rw [List.mem_singleton.mp hd]; exact sn).mono (by decide) (by decide)
  have ev := every.mono (Nat.le_refl 4) (show 500 ≤ 700 by decide)
  have evR := everyR.mono (Nat.le_refl 4) (show 500 ≤ 700 by decide)
  have z0 : Sb 4 700 (.tuple []) := lit _ (by decide +kernel) rfl
  have zz : Sb 4 700 (.tuple [.str "zz"]) := lit _ (by decide +kernel) (by decide +kernel)
  have hsz := ok.sz b hb
  rcases (show b.size = 2 ∨ b.size = 3 by omega) with e | e
  · have l : (List.range 2).map (fun i : Nat => PyData.int i) = [.int 0, .int 1] := rfl
    have h2 : dBin .Mult (.tuple [.tuple [.int 0]]) (.int 2) = some (.tuple [.tuple [.int 0], .tuple [.int 0]], false) := rfl
    have hc : dSl (.tuple [.tuple [.int 0], .tuple [.int 1]]) none (some 1) = some (.tuple [.tuple [.int 0]], false) := rfl
    rw [c__law_rows]
    unfold b__law_rows
    simp only [mAug, miZip, seqOf, inSignR, ninSignR, eqNil, eqNilT, inStrsT, inStrsL, biAll, biAny, true_and, and_true, and_self, Int.reducePow, Int.reduceNeg, Int.reduceToNat, rangeD, List.cons_append, List.nil_append, List.length_append, bAddL, bAddT, bMod, bNeg, biList, biListT, biTup, biTupT, biMax, isnB, isB, mDct0, sizeLine, Nat.reducePow, Nat.reduceLeDiff, cond_true, cond_false, Bool.not_eq_true, Int.cast_ofNat_Int, decide_true, decide_false, Int.reduceEq, Int.reduceLT, Int.reduceLE, Int.reduceSub, Int.reduceAdd, beq_self_eq_true, mSeq, mRet, mVar, mConst, ev1, ev2, mBool, mTru, mIfS, mIf, mSet, mAsg, mPar2, mSortSet, mSetI, mMeth, mBi, mCall, mTup, mLst, mSl, mPart, mAnd, mOr, mNotT, vAnd, vOr, mSkip, mIfs, mChain, mLenSet, mSetL, mFn, mGet2, miVal, miRange, miEnum, lS, lR, gVar, gTupD, gsCons, gsNil, shEnv, shIdx, inner, hideOwn, wipeE, kOf, frOf, fOut, List.getElem?_cons_zero, List.getElem?_cons_succ, List.getElem?_nil, List.set_cons_zero, List.set_cons_succ, List.map_cons, List.map_nil, List.length_cons, List.length_nil, Bool.false_eq_true, ↓reduceIte, Nat.reduceAdd, lc1, iterD, dTru, dIsaR, dIsa, dNot, cEqII, cNeII, cEqSS, cNeSS, cLtII, cLeII, cGtII, cGeII, cLtII', cLeII', bAdd, bSub, ixT0, ixL0, ixT1, ixL1, ixT2, ixL2, ixT3, biLenL, biLenT, Bool.not_true, Bool.not_false, Bool.true_and, Bool.false_and, Bool.and_true, Bool.and_false, d0, d1, List.length_map, m0, i0, Bx.d, no, e, mLc, lcLoop, l, hrev, hc, h2]
    rw [lcMapA (f := Bx.d) (fun b : Bx => .str b.name) (fun b _ => by simp only [mAug, miZip, seqOf, inSignR, ninSignR, eqNil, eqNilT, inStrsT, inStrsL, biAll, biAny, true_and, and_true, and_self, Int.reducePow, Int.reduceNeg, Int.reduceToNat, rangeD, List.cons_append, List.nil_append, List.length_append, bAddL, bAddT, bMod, bNeg, biList, biListT, biTup, biTupT, biMax, isnB, isB, mDct0, sizeLine, Nat.reducePow, Nat.reduceLeDiff, cond_true, cond_false, Bool.not_eq_true, Int.cast_ofNat_Int, decide_true, decide_false, Int.reduceEq, Int.reduceLT, Int.reduceLE, Int.reduceSub, Int.reduceAdd, beq_self_eq_true, mSeq, mRet, mVar, mConst, ev1, ev2, mBool, mTru, mIfS, mIf, mSet, mAsg, mPar2, mSortSet, mSetI, mMeth, mBi, mCall, mTup, mLst, mSl, mPart, mAnd, mOr, mNotT, vAnd, vOr, mSkip, mIfs, mChain, mLenSet, mSetL, mFn, mGet2, miVal, miRange, miEnum, lS, lR, gVar, gTupD, gsCons, gsNil, shEnv, shIdx, inner, hideOwn, wipeE, kOf, frOf, fOut, List.getElem?_cons_zero, List.getElem?_cons_succ, List.getElem?_nil, List.set_cons_zero, List.set_cons_succ, List.map_cons, List.map_nil, List.length_cons, List.length_nil, Bool.false_eq_true, ↓reduceIte, Nat.reduceAdd, lc1, iterD, dTru, dIsaR, dIsa, dNot, cEqII, cNeII, cEqSS, cNeSS, cLtII, cLeII, cGtII, cGeII, cLtII', cLeII', bAdd, bSub, ixT0, ixL0, ixT1, ixL1, ixT2, ixL2, ixT3, biLenL, biLenT, Bool.not_true, Bool.not_false, Bool.true_and, Bool.false_and, Bool.and_true, Bool.and_false, Bx.d])]
    simp only [mAug, miZip, seqOf, inSignR, ninSignR, eqNil, eqNilT, inStrsT, inStrsL, biAll, biAny, true_and, and_true, and_self, Int.reducePow, Int.reduceNeg, Int.reduceToNat, rangeD, List.cons_append, List.nil_append, List.length_append, bAddL, bAddT, bMod, bNeg, biList, biListT, biTup, biTupT, biMax, isnB, isB, mDct0, sizeLine, Nat.reducePow, Nat.reduceLeDiff, cond_true, cond_false, Bool.not_eq_true, Int.cast_ofNat_Int, decide_true, decide_false, Int.reduceEq, Int.reduceLT, Int.reduceLE, Int.reduceSub, Int.reduceAdd, beq_self_eq_true, mSeq, mRet, mVar, mConst, ev1, ev2, mBool, mTru, mIfS, mIf, mSet, mAsg, mPar2, mSortSet, mSetI, mMeth, mBi, mCall, mTup, mLst, mSl, mPart, mAnd, mOr, mNotT, vAnd, vOr, mSkip, mIfs, mChain, mLenSet, mSetL, mFn, mGet2, miVal, miRange, miEnum, lS, lR, gVar, gTupD, gsCons, gsNil, shEnv, shIdx, inner, hideOwn, wipeE, kOf, frOf, fOut, List.getElem?_cons_zero, List.getElem?_cons_succ, List.getElem?_nil, List.set_cons_zero, List.set_cons_succ, List.map_cons, List.map_nil, List.length_cons, List.length_nil, Bool.false_eq_true, ↓reduceIte, Nat.reduceAdd, lc1, iterD, dTru, dIsaR, dIsa, dNot, cEqII, cNeII, cEqSS, cNeSS, cLtII, cLeII, cGtII, cGeII, cLtII', cLeII', bAdd, bSub, ixT0, ixL0, ixT1, ixL1, ixT2, ixL2, ixT3, biLenL, biLenT, Bool.not_true, Bool.not_false, Bool.true_and, Bool.false_and, Bool.and_true, Bool.and_false, na, hrev, List.length_map, hmul]
    refine ⟨_, rfl, by simp, fun t ht => ?_⟩
    simp only [List.mem_cons, List.not_mem_nil, or_false] at ht
    rcases ht with rfl | rfl | rfl | rfl | rfl | rfl | rfl | rfl | rfl | rfl | rfl | rfl | rfl | rfl | rfl | rfl | rfl
    all_goals first
      | (refine am ?_ ?_ <;> first | assumption | exact lit _ (by decide +kernel) (by decide +kernel))
      | exact (sb_one (sb_wd 0 (by simp))).mono (by decide) (by decide)
  · have l : (List.range 3).map (fun i : Nat => PyData.int i) = [.int 0, .int 1, .int 2] := rfl
    have h2 : dBin .Mult (.tuple [.tuple [.int 0]]) (.int 2) = some (.tuple [.tuple [.int 0], .tuple [.int 0]], false) := rfl
    have hc : dSl (.tuple [.tuple [.int 0], .tuple [.int 1], .tuple [.int 2]]) none (some 1) = some (.tuple [.tuple [.int 0]], false) := rfl
    rw [c__law_rows]
    unfold b__law_rows
    simp only [mAug, miZip, seqOf, inSignR, ninSignR, eqNil, eqNilT, inStrsT, inStrsL, biAll, biAny, true_and, and_true, and_self, Int.reducePow, Int.reduceNeg, Int.reduceToNat, rangeD, List.cons_append, List.nil_append, List.length_append, bAddL, bAddT, bMod, bNeg, biList, biListT, biTup, biTupT, biMax, isnB, isB, mDct0, sizeLine, Nat.reducePow, Nat.reduceLeDiff, cond_true, cond_false, Bool.not_eq_true, Int.cast_ofNat_Int, decide_true, decide_false, Int.reduceEq, Int.reduceLT, Int.reduceLE, Int.reduceSub, Int.reduceAdd, beq_self_eq_true, mSeq, mRet, mVar, mConst, ev1, ev2, mBool, mTru, mIfS, mIf, mSet, mAsg, mPar2, mSortSet, mSetI, mMeth, mBi, mCall, mTup, mLst, mSl, mPart, mAnd, mOr, mNotT, vAnd, vOr, mSkip, mIfs, mChain, mLenSet, mSetL, mFn, mGet2, miVal, miRange, miEnum, lS, lR, gVar, gTupD, gsCons, gsNil, shEnv, shIdx, inner, hideOwn, wipeE, kOf, frOf, fOut, List.getElem?_cons_zero, List.getElem?_cons_succ, List.getElem?_nil, List.set_cons_zero, List.set_cons_succ, List.map_cons, List.map_nil, List.length_cons, List.length_nil, Bool.false_eq_true, ↓reduceIte, Nat.reduceAdd, lc1, iterD, dTru, dIsaR, dIsa, dNot, cEqII, cNeII, cEqSS, cNeSS, cLtII, cLeII, cGtII, cGeII, cLtII', cLeII', bAdd, bSub, ixT0, ixL0, ixT1, ixL1, ixT2, ixL2, ixT3, biLenL, biLenT, Bool.not_true, Bool.not_false, Bool.true_and, Bool.false_and, Bool.and_true, Bool.and_false, d0, d1, List.length_map, m0, i0, Bx.d, no, e, mLc, lcLoop, l, hrev, hc, h2]
    rw [lcMapA (f := Bx.d) (fun b : Bx => .str b.name) (fun b _ => by simp only [mAug, miZip, seqOf, inSignR, ninSignR, eqNil, eqNilT, inStrsT, inStrsL, biAll, biAny, true_and, and_true, and_self, Int.reducePow, Int.reduceNeg, Int.reduceToNat, rangeD, List.cons_append, List.nil_append, List.length_append, bAddL, bAddT, bMod, bNeg, biList, biListT, biTup, biTupT, biMax, isnB, isB, mDct0, sizeLine, Nat.reducePow, Nat.reduceLeDiff, cond_true, cond_false, Bool.not_eq_true, Int.cast_ofNat_Int, decide_true, decide_false, Int.reduceEq, Int.reduceLT, Int.reduceLE, Int.reduceSub, Int.reduceAdd, beq_self_eq_true, mSeq, mRet, mVar, mConst, ev1, ev2, mBool, mTru, mIfS, mIf, mSet, mAsg, mPar2, mSortSet, mSetI, mMeth, mBi, mCall, mTup, mLst, mSl, mPart, mAnd, mOr, mNotT, vAnd, vOr, mSkip, mIfs, mChain, mLenSet, mSetL, mFn, mGet2, miVal, miRange, miEnum, lS, lR, gVar, gTupD, gsCons, gsNil, shEnv, shIdx, inner, hideOwn, wipeE, kOf, frOf, fOut, List.getElem?_cons_zero, List.getElem?_cons_succ, List.getElem?_nil, List.set_cons_zero, List.set_cons_succ, List.map_cons, List.map_nil, List.length_cons, List.length_nil, Bool.false_eq_true, ↓reduceIte, Nat.reduceAdd, lc1, iterD, dTru, dIsaR, dIsa, dNot, cEqII, cNeII, cEqSS, cNeSS, cLtII, cLeII, cGtII, cGeII, cLtII', cLeII', bAdd, bSub, ixT0, ixL0, ixT1, ixL1, ixT2, ixL2, ixT3, biLenL, biLenT, Bool.not_true, Bool.not_false, Bool.true_and, Bool.false_and, Bool.and_true, Bool.and_false, Bx.d])]
    simp only [mAug, miZip, seqOf, inSignR, ninSignR, eqNil, eqNilT, inStrsT, inStrsL, biAll, biAny, true_and, and_true, and_self, Int.reducePow, Int.reduceNeg, Int.reduceToNat, rangeD, List.cons_append, List.nil_append, List.length_append, bAddL, bAddT, bMod, bNeg, biList, biListT, biTup, biTupT, biMax, isnB, isB, mDct0, sizeLine, Nat.reducePow, Nat.reduceLeDiff, cond_true, cond_false, Bool.not_eq_true, Int.cast_ofNat_Int, decide_true, decide_false, Int.reduceEq, Int.reduceLT, Int.reduceLE, Int.reduceSub, Int.reduceAdd, beq_self_eq_true, mSeq, mRet, mVar, mConst, ev1, ev2, mBool, mTru, mIfS, mIf, mSet, mAsg, mPar2, mSortSet, mSetI, mMeth, mBi, mCall, mTup, mLst, mSl, mPart, mAnd, mOr, mNotT, vAnd, vOr, mSkip, mIfs, mChain, mLenSet, mSetL, mFn, mGet2, miVal, miRange, miEnum, lS, lR, gVar, gTupD, gsCons, gsNil, shEnv, shIdx, inner, hideOwn, wipeE, kOf, frOf, fOut, List.getElem?_cons_zero, List.getElem?_cons_succ, List.getElem?_nil, List.set_cons_zero, List.set_cons_succ, List.map_cons, List.map_nil, List.length_cons, List.length_nil, Bool.false_eq_true, ↓reduceIte, Nat.reduceAdd, lc1, iterD, dTru, dIsaR, dIsa, dNot, cEqII, cNeII, cEqSS, cNeSS, cLtII, cLeII, cGtII, cGeII, cLtII', cLeII', bAdd, bSub, ixT0, ixL0, ixT1, ixL1, ixT2, ixL2, ixT3, biLenL, biLenT, Bool.not_true, Bool.not_false, Bool.true_and, Bool.false_and, Bool.and_true, Bool.and_false, na, hrev, List.length_map, hmul]
    refine ⟨_, rfl, by simp, fun t ht => ?_⟩
    simp only [List.mem_cons, List.not_mem_nil, or_false] at ht
    rcases ht with rfl | rfl | rfl | rfl | rfl | rfl | rfl | rfl | rfl | rfl | rfl | rfl | rfl | rfl | rfl | rfl | rfl
    all_goals first
      | (refine am ?_ ?_ <;> first | assumption | exact lit _ (by decide +kernel) (by decide +kernel))
      | exact (sb_one (sb_wd 0 (by simp))).mono (by decide) (by decide)
end K02
set_option Elab.async false
set_option linter.all false
set_option maxRecDepth 100000
set_option maxHeartbeats 1000000
set_option autoImplicit false
namespace K02
open PySem PySem.Spec PyProof.Rows L2 HC
theorem rb (b : Bool) : dBi .repr [.bool b] = some (.str (PyData.shown (.bool b)), false) := (Shw.of_b (a := 0) (b := 5) (d := .bool b) (by cases b <;> decide +kernel)).repr (by decide) (by decide)
theorem pc (k : Nat) (bs : List Bx) (n : Nat) (hn : n ≤ 8) (d : D) (h : small d = true) : CF (k + 14) "is_condition" [.list (bs.map Bx.d), d, .int (n : Int)] = some (.bool (cond bs n d), false) := by
  have := p_cond (k + (8 - n)) bs n d h
  rw [show k + (8 - n) + n + 6 = k + 14 by omega] at this
  exact this
theorem pl (k : Nat) (bs : List Bx) (hd : (bs.map Bx.name).Nodup) (n : Nat) (hn : n ≤ 8) (d : D) (h : small d = true) : CF (k + 14) "_law_is_condition" [.list (bs.map Bx.d), d, .int (n : Int)] = some (.bool (cond bs n d), false) := by
  have := p__law_cond (k + (8 - n)) bs hd n d h
  rw [show k + (8 - n) + n + 6 = k + 14 by omega] at this
  exact this
theorem boxes_shw {bs : List Bx} (ok : BsOk bs) : Shw 2 120 (.list (bs.map Bx.d)) := by
  refine (Shw.list (Shws.all (a := 1) (b := 33) fun d hd => ?_)).mono (Nat.le_refl _) (by rw [List.length_map]; have := ok.len; omega)
  obtain ⟨b, hb, rfl⟩ := List.mem_map.mp hd
  have hs := ok.sz b hb
  refine sh3 (nmS ok hb) ((Shw.int (by omega) (by omega)).mono (Nat.le_refl _) (by decide)) ?_
  rcases ok.kd b hb with e | e <;> rw [e] <;> exact .of_b (by decide +kernel)
theorem turn1 (k : Nat) (bs : List Bx) (ok : BsOk bs) (t : D) (ht : small t = true) (s1 s2 s3 s4 s5 s6 s7 s9 s10 s11 : Option Sl) (n : Nat) (hn : n ≤ 8) :
    NxA (fun e => ∃ s10, e = [some ⟨.list (bs.map Bx.d), false⟩, s1, s2, s3, s4, s5, s6, s7, some ⟨t, false⟩, s9, s10, s11]) g__law_right_l1 (b__law_right_l1 (CF (k + 14))) (.int (n : Int)) [some ⟨.list (bs.map Bx.d), false⟩, s1, s2, s3, s4, s5, s6, s7, some ⟨t, false⟩, s9, s10, s11] := by
  have h1 := pc k bs n hn t ht
  have h2 := pl k bs ok.nd n hn t ht
  unfold b__law_right_l1
  simp only [mAug, miZip, seqOf, inSignR, ninSignR, eqNil, eqNilT, inStrsT, inStrsL, biAll, biAny, true_and, and_true, and_self, Int.reducePow, Int.reduceNeg, Int.reduceToNat, rangeD, List.cons_append, List.nil_append, List.length_append, bAddL, bAddT, bMod, bNeg, biList, biListT, biTup, biTupT, biMax, isnB, isB, mDct0, sizeLine, Nat.reducePow, Nat.reduceLeDiff, cond_true, cond_false, Bool.not_eq_true, Int.cast_ofNat_Int, decide_true, decide_false, Int.reduceEq, Int.reduceLT, Int.reduceLE, Int.reduceSub, Int.reduceAdd, beq_self_eq_true, mSeq, mRet, mVar, mConst, ev1, ev2, mBool, mTru, mIfS, mIf, mSet, mAsg, mPar2, mSortSet, mSetI, mMeth, mBi, mCall, mTup, mLst, mSl, mPart, mAnd, mOr, mNotT, vAnd, vOr, mSkip, mIfs, mChain, mLenSet, mSetL, mFn, mGet2, miVal, miRange, miEnum, lS, lR, gVar, gTupD, gsCons, gsNil, shEnv, shIdx, inner, hideOwn, wipeE, kOf, frOf, fOut, List.getElem?_cons_zero, List.getElem?_cons_succ, List.getElem?_nil, List.set_cons_zero, List.set_cons_succ, List.map_cons, List.map_nil, List.length_cons, List.length_nil, Bool.false_eq_true, ↓reduceIte, Nat.reduceAdd, lc1, iterD, dTru, dIsaR, dIsa, dNot, cEqII, cNeII, cEqSS, cNeSS, cLtII, cLeII, cGtII, cGeII, cLtII', cLeII', bAdd, bSub, ixT0, ixL0, ixT1, ixL1, ixT2, ixL2, ixT3, biLenL, biLenT, Bool.not_true, Bool.not_false, Bool.true_and, Bool.false_and, Bool.and_true, Bool.and_false, NxA, mCallS, HC.Shape.put, fl0, h1, h2, rb, NxI]
  exact ⟨_, rfl⟩
theorem turn2 (k : Nat) (bs : List Bx) (ok : BsOk bs) (t : D) (ht : Sb 40 2000000 t) (s1 s2 s3 s4 s5 s6 s7 s8 s9 s10 s11 : Option Sl) :
    NxA (fun e => ∃ s8 s9 s10, e = [some ⟨.list (bs.map Bx.d), false⟩, s1, s2, s3, s4, s5, s6, s7, s8, s9, s10, s11]) g__law_right_l2 (b__law_right_l2 (CF (k + 14))) t [some ⟨.list (bs.map Bx.d), false⟩, s1, s2, s3, s4, s5, s6, s7, s8, s9, s10, s11] := by
  have r1 := (Shw.pairL ((boxes_shw ok).mono (show 2 ≤ 40 by decide) (Nat.le_refl _)) ht.sh).repr (by decide) (by decide)
  have h1 := pc k bs 5 (by decide) t ht.sm
  have h2 := pl k bs ok.nd 5 (by decide) t ht.sm
  rw [show ((5 : Nat) : Int) = 5 from rfl] at h1 h2
  unfold b__law_right_l2
  simp only [mAug, miZip, seqOf, inSignR, ninSignR, eqNil, eqNilT, inStrsT, inStrsL, biAll, biAny, true_and, and_true, and_self, Int.reducePow, Int.reduceNeg, Int.reduceToNat, rangeD, List.cons_append, List.nil_append, List.length_append, bAddL, bAddT, bMod, bNeg, biList, biListT, biTup, biTupT, biMax, isnB, isB, mDct0, sizeLine, Nat.reducePow, Nat.reduceLeDiff, cond_true, cond_false, Bool.not_eq_true, Int.cast_ofNat_Int, decide_true, decide_false, Int.reduceEq, Int.reduceLT, Int.reduceLE, Int.reduceSub, Int.reduceAdd, beq_self_eq_true, mSeq, mRet, mVar, mConst, ev1, ev2, mBool, mTru, mIfS, mIf, mSet, mAsg, mPar2, mSortSet, mSetI, mMeth, mBi, mCall, mTup, mLst, mSl, mPart, mAnd, mOr, mNotT, vAnd, vOr, mSkip, mIfs, mChain, mLenSet, mSetL, mFn, mGet2, miVal, miRange, miEnum, lS, lR, gVar, gTupD, gsCons, gsNil, shEnv, shIdx, inner, hideOwn, wipeE, kOf, frOf, fOut, List.getElem?_cons_zero, List.getElem?_cons_succ, List.getElem?_nil, List.set_cons_zero, List.set_cons_succ, List.map_cons, List.map_nil, List.length_cons, List.length_nil, Bool.false_eq_true, ↓reduceIte, Nat.reduceAdd, lc1, iterD, dTru, dIsaR, dIsa, dNot, cEqII, cNeII, cEqSS, cNeSS, cLtII, cLeII, cGtII, cGeII, cLtII', cLeII', bAdd, bSub, ixT0, ixL0, ixT1, ixL1, ixT2, ixL2, ixT3, biLenL, biLenT, Bool.not_true, Bool.not_false, Bool.true_and, Bool.false_and, Bool.and_true, Bool.and_false, NxA, r1]
  obtain ⟨e', g1, s10', he⟩ := forC (f := fun n : Nat => PyData.int n) (mi := i__law_right_l1 (CF (k + 14))) (asg := g__law_right_l1) (body := b__law_right_l1 (CF (k + 14)))
    (env := [some ⟨.list (bs.map Bx.d), false⟩, s1, s2, s3, s4, s5, s6, s7, some ⟨t, false⟩, some ⟨.str (PyData.shown (.list [.list (bs.map Bx.d), t])), false⟩, s10, s11]) (e0 := [some ⟨.list (bs.map Bx.d), false⟩, s1, s2, s3, s4, s5, s6, s7, some ⟨t, false⟩, some ⟨.str (PyData.shown (.list [.list (bs.map Bx.d), t])), false⟩, s10, s11])
    (fun e => ∃ s10, e = [some ⟨.list (bs.map Bx.d), false⟩, s1, s2, s3, s4, s5, s6, s7, some ⟨t, false⟩, some ⟨.str (PyData.shown (.list [.list (bs.map Bx.d), t])), false⟩, s10, s11]) [1, 4, 5, 8] rfl ⟨s10, rfl⟩ fun n hn e ⟨s10, he⟩ => by
      subst he
      exact turn1 k bs ok t ht.sm s1 s2 s3 s4 s5 s6 s7 _ s10 s11 n (by
        simp only [List.mem_cons, List.not_mem_nil, or_false] at hn
        omega)
  subst he
  rw [g1]
  simp only [mAug, miZip, seqOf, inSignR, ninSignR, eqNil, eqNilT, inStrsT, inStrsL, biAll, biAny, true_and, and_true, and_self, Int.reducePow, Int.reduceNeg, Int.reduceToNat, rangeD, List.cons_append, List.nil_append, List.length_append, bAddL, bAddT, bMod, bNeg, biList, biListT, biTup, biTupT, biMax, isnB, isB, mDct0, sizeLine, Nat.reducePow, Nat.reduceLeDiff, cond_true, cond_false, Bool.not_eq_true, Int.cast_ofNat_Int, decide_true, decide_false, Int.reduceEq, Int.reduceLT, Int.reduceLE, Int.reduceSub, Int.reduceAdd, beq_self_eq_true, mSeq, mRet, mVar, mConst, ev1, ev2, mBool, mTru, mIfS, mIf, mSet, mAsg, mPar2, mSortSet, mSetI, mMeth, mBi, mCall, mTup, mLst, mSl, mPart, mAnd, mOr, mNotT, vAnd, vOr, mSkip, mIfs, mChain, mLenSet, mSetL, mFn, mGet2, miVal, miRange, miEnum, lS, lR, gVar, gTupD, gsCons, gsNil, shEnv, shIdx, inner, hideOwn, wipeE, kOf, frOf, fOut, List.getElem?_cons_zero, List.getElem?_cons_succ, List.getElem?_nil, List.set_cons_zero, List.set_cons_succ, List.map_cons, List.map_nil, List.length_cons, List.length_nil, Bool.false_eq_true, ↓reduceIte, Nat.reduceAdd, lc1, iterD, dTru, dIsaR, dIsa, dNot, cEqII, cNeII, cEqSS, cNeSS, cLtII, cLeII, cGtII, cGeII, cLtII', cLeII', bAdd, bSub, ixT0, ixL0, ixT1, ixL1, ixT2, ixL2, ixT3, biLenL, biLenT, Bool.not_true, Bool.not_false, Bool.true_and, Bool.false_and, Bool.and_true, Bool.and_false, mCallS, HC.Shape.put, fl1, h1, h2, rb, r1, NxI]
  exact ⟨_, _, _, rfl⟩
end K02
set_option Elab.async false
set_option linter.all false
set_option maxRecDepth 100000
set_option maxHeartbeats 1000000
set_option autoImplicit false
namespace K02
open PySem PySem.Spec PyProof.Rows L2 HC
theorem p__law_right (k : Nat) (bs : List Bx) (ok : BsOk bs) (es : List Int) (hb : ∀ e ∈ es, 0 ≤ e ∧ e < 420) (hl : es.length = 90) : ∃ fr, CF (k + 15) "_law_right" [.list (bs.map Bx.d), .list (es.map PyData.int)] = some (.bool true, fr) := by
  have hne : 0 < bs.length := List.length_pos_iff.mpr ok.ne
  have hneI : (0 : Int) < (bs.length : Int) := by omega
  have gt : ∀ i : Nat, i < 90 → ∃ x : Int, es[i]? = some x := fun i h => ⟨es[i]'(by omega), List.getElem?_eq_getElem _⟩
  obtain ⟨x60, h60⟩ := gt 60 (by decide)
  obtain ⟨x61, h61⟩ := gt 61 (by decide)
  obtain ⟨x62, h62⟩ := gt 62 (by decide)
  obtain ⟨x64, h64⟩ := gt 64 (by decide)
  obtain ⟨x65, h65⟩ := gt 65 (by decide)
  obtain ⟨x66, h66⟩ := gt 66 (by decide)
  have d60 : dIx (.list (es.map PyData.int)) (.int 60) = some (.int x60, false) := HC.ixD es 60 _ h60
  have d61 : dIx (.list (es.map PyData.int)) (.int 61) = some (.int x61, false) := HC.ixD es 61 _ h61
  have d62 : dIx (.list (es.map PyData.int)) (.int 62) = some (.int x62, false) := HC.ixD es 62 _ h62
  have d64 : dIx (.list (es.map PyData.int)) (.int 64) = some (.int x64, false) := HC.ixD es 64 _ h64
  obtain ⟨g, ng, tg⟩ := p__law_tree (k + 8) bs ok 4 es hb (by omega)
  rw [show k + 8 + 4 + 2 = k + 14 by omega, show ((4 + 1 : Nat) : Int) = 5 from rfl] at ng
  obtain ⟨b, hbm, i60⟩ := box_at bs x60 hne
  have m60 := bMod x60 _ hneI
  have hsz := ok.sz b hbm
  obtain ⟨o1, ho1, no1⟩ := p__law_odd (k + 13) x61
  obtain ⟨o2, ho2, no2⟩ := p__law_odd (k + 13) x64
  have sn : Sb 0 8 (.str b.name) := ⟨rfl, nmS ok hbm⟩
  have sc : ∀ i : Int, 0 ≤ i → i ≤ 3 → Sb 0 8 (.int i) := fun i h0 h1 => ⟨rfl, (Shw.int h0 (by omega)).mono (Nat.le_refl _) (by decide)⟩
  have sm1 : Sb 0 8 (.int (-1)) := ⟨rfl, .of_b (by decide +kernel)⟩
  have is3 : ∀ {x : D}, Sb 1 30 x → Sb 2 101 (.tuple [.str "is", .str b.name, x]) := fun h => ⟨sm3 rfl rfl h.sm, (sh3 ((wd (by simp)).mono (by decide) (by decide)) (sn.sh.mono (by decide) (by decide)) h.sh).mono (by decide) (by decide)⟩
  obtain ⟨o, ho, _, hio⟩ := ixMod (ds := [o1, .str "zz", .str "A", .int b.size, .int (-1), .str "is", .str "like", .tuple [.str "is", .str b.name, .int b.size], .str b.name, .int 0]) (i := x62) (by simp)
  simp only [List.length_cons, List.length_nil, Nat.reduceAdd, Int.cast_ofNat_Int] at hio
  have m62 := bMod x62 10 (by decide)
  have so : Sb 2 40 o := by
    simp only [List.mem_cons, List.not_mem_nil, or_false] at ho
    rcases ho with rfl | rfl | rfl | rfl | rfl | rfl | rfl | rfl | rfl | rfl
    · exact odd_sb ho1
    · exact (sb_wd 0 (by simp)).mono (by decide) (by decide)
    · exact (sb_wd 0 (by simp)).mono (by decide) (by decide)
    · exact (sc _ (by omega) (by omega)).mono (by decide) (by decide)
    · exact sm1.mono (by decide) (by decide)
    · exact (sb_wd 0 (by simp)).mono (by decide) (by decide)
    · exact (sb_wd 0 (by simp)).mono (by decide) (by decide)
    · have s := sc b.size (by omega) (by omega)
      exact ⟨sm3 rfl rfl s.sm, (sh3 (wd (by simp)) sn.sh s.sh).mono (by decide) (by decide)⟩
    · exact sn.mono (by decide) (by decide)
    · exact (sc 0 (by omega) (by omega)).mono (by decide) (by decide)
  obtain ⟨r, nr, sr⟩ := p__law_within bs o so 6 (k + 7) g (es.drop 63) tg (by rw [List.length_drop]; omega)
  rw [show k + 7 + 6 + 1 = k + 14 by omega] at nr
  have hc63 := cutD1 es 63
  have hc65 := cutD1 es 65
  rw [show ((63 : Nat) : Int) = 63 from rfl] at hc63
  rw [show ((65 : Nat) : Int) = 65 from rfl] at hc65
  obtain ⟨L, nL, lL, sL⟩ := p__law_rows (k + 12) bs ok (es.drop 65) x65 x66 (by rw [List.getElem?_drop]; exact h65) (by rw [List.getElem?_drop]; exact h66)
  have din : Sb 1 40 (.tuple [.str "is", .str b.name, .int 0]) := ⟨sm3 rfl rfl rfl, (sh3 (wd (by simp)) sn.sh (sc 0 (by omega) (by omega)).sh).mono (by decide) (by decide)⟩
  obtain ⟨R, hR⟩ : ∃ R : Nat → D, ∀ m : Nat, m ≤ 8 → CF (k + 14) "_law_deep" [.int (m : Int), .tuple [.str "is", .str b.name, .int 0]] = some (R m, false) ∧ Sb 17 400 (R m) :=
    ⟨fun m => if h : m ≤ 8 then (p__law_deep (k + 13) m h _ din).choose else .none, fun m h => by
      simp only [dif_pos h]
      exact (p__law_deep (k + 13) m h _ din).choose_spec⟩
  have h9 : dBin .Mult (.tuple [g]) (.int 9) = some (.tuple (List.replicate 9 g), false) := rfl
  have h8 : dBin .Mult (.tuple [g]) (.int 8) = some (.tuple (List.replicate 8 g), false) := rfl
  have sg := tr_sb tg
  have zg : sz 6 = 183696 := rfl
  rw [zg] at sg sr
  have lr : 18 + (9 + 2) + L.length ≤ 16777216 := by omega
  rw [c__law_right]
  unfold b__law_right
  simp only [mAug, miZip, seqOf, inSignR, ninSignR, eqNil, eqNilT, inStrsT, inStrsL, biAll, biAny, true_and, and_true, and_self, Int.reducePow, Int.reduceNeg, Int.reduceToNat, rangeD, List.cons_append, List.nil_append, List.length_append, bAddL, bAddT, bMod, bNeg, biList, biListT, biTup, biTupT, biMax, isnB, isB, mDct0, sizeLine, Nat.reducePow, Nat.reduceLeDiff, cond_true, cond_false, Bool.not_eq_true, Int.cast_ofNat_Int, decide_true, decide_false, Int.reduceEq, Int.reduceLT, Int.reduceLE, Int.reduceSub, Int.reduceAdd, beq_self_eq_true, mSeq, mRet, mVar, mConst, ev1, ev2, mBool, mTru, mIfS, mIf, mSet, mAsg, mPar2, mSortSet, mSetI, mMeth, mBi, mCall, mTup, mLst, mSl, mPart, mAnd, mOr, mNotT, vAnd, vOr, mSkip, mIfs, mChain, mLenSet, mSetL, mFn, mGet2, miVal, miRange, miEnum, lS, lR, gVar, gTupD, gsCons, gsNil, shEnv, shIdx, inner, hideOwn, wipeE, kOf, frOf, fOut, List.getElem?_cons_zero, List.getElem?_cons_succ, List.getElem?_nil, List.set_cons_zero, List.set_cons_succ, List.map_cons, List.map_nil, List.length_cons, List.length_nil, Bool.false_eq_true, ↓reduceIte, Nat.reduceAdd, lc1, iterD, dTru, dIsaR, dIsa, dNot, cEqII, cNeII, cEqSS, cNeSS, cLtII, cLeII, cGtII, cGeII, cLtII', cLeII', bAdd, bSub, ixT0, ixL0, ixT1, ixL1, ixT2, ixL2, ixT3, biLenL, biLenT, Bool.not_true, Bool.not_false, Bool.true_and, Bool.false_and, Bool.and_true, Bool.and_false, ng, d60, d61, d62, d64, List.length_map, m60, i60, Bx.d, no1, m62, hio, hc63, nr, h9, h8, mLc, List.length_range]
  rw [lcMapA (f := fun i : Nat => PyData.int i) R (fun i hi => by
    have := (hR i (by have := List.mem_range.mp hi; omega)).1
    simp only [mAug, miZip, seqOf, inSignR, ninSignR, eqNil, eqNilT, inStrsT, inStrsL, biAll, biAny, true_and, and_true, and_self, Int.reducePow, Int.reduceNeg, Int.reduceToNat, rangeD, List.cons_append, List.nil_append, List.length_append, bAddL, bAddT, bMod, bNeg, biList, biListT, biTup, biTupT, biMax, isnB, isB, mDct0, sizeLine, Nat.reducePow, Nat.reduceLeDiff, cond_true, cond_false, Bool.not_eq_true, Int.cast_ofNat_Int, decide_true, decide_false, Int.reduceEq, Int.reduceLT, Int.reduceLE, Int.reduceSub, Int.reduceAdd, beq_self_eq_true, mSeq, mRet, mVar, mConst, ev1, ev2, mBool, mTru, mIfS, mIf, mSet, mAsg, mPar2, mSortSet, mSetI, mMeth, mBi, mCall, mTup, mLst, mSl, mPart, mAnd, mOr, mNotT, vAnd, vOr, mSkip, mIfs, mChain, mLenSet, mSetL, mFn, mGet2, miVal, miRange, miEnum, lS, lR, gVar, gTupD, gsCons, gsNil, shEnv, shIdx, inner, hideOwn, wipeE, kOf, frOf, fOut, List.getElem?_cons_zero, List.getElem?_cons_succ, List.getElem?_nil, List.set_cons_zero, List.set_cons_succ, List.map_cons, List.map_nil, List.length_cons, List.length_nil, Bool.false_eq_true, ↓reduceIte, Nat.reduceAdd, lc1, iterD, dTru, dIsaR, dIsa, dNot, cEqII, cNeII, cEqSS, cNeSS, cLtII, cLeII, cGtII, cGeII, cLtII', cLeII', bAdd, bSub, ixT0, ixL0, ixT1, ixL1, ixT2, ixL2, ixT3, biLenL, biLenT, Bool.not_true, Bool.not_false, Bool.true_and, Bool.false_and, Bool.and_true, Bool.and_false, this])]
  simp only [mAug, miZip, seqOf, inSignR, ninSignR, eqNil, eqNilT, inStrsT, inStrsL, biAll, biAny, true_and, and_true, and_self, Int.reducePow, Int.reduceNeg, Int.reduceToNat, rangeD, List.cons_append, List.nil_append, List.length_append, bAddL, bAddT, bMod, bNeg, biList, biListT, biTup, biTupT, biMax, isnB, isB, mDct0, sizeLine, Nat.reducePow, Nat.reduceLeDiff, cond_true, cond_false, Bool.not_eq_true, Int.cast_ofNat_Int, decide_true, decide_false, Int.reduceEq, Int.reduceLT, Int.reduceLE, Int.reduceSub, Int.reduceAdd, beq_self_eq_true, mSeq, mRet, mVar, mConst, ev1, ev2, mBool, mTru, mIfS, mIf, mSet, mAsg, mPar2, mSortSet, mSetI, mMeth, mBi, mCall, mTup, mLst, mSl, mPart, mAnd, mOr, mNotT, vAnd, vOr, mSkip, mIfs, mChain, mLenSet, mSetL, mFn, mGet2, miVal, miRange, miEnum, lS, lR, gVar, gTupD, gsCons, gsNil, shEnv, shIdx, inner, hideOwn, wipeE, kOf, frOf, fOut, List.getElem?_cons_zero, List.getElem?_cons_succ, List.getElem?_nil, List.set_cons_zero, List.set_cons_succ, List.map_cons, List.map_nil, List.length_cons, List.length_nil, Bool.false_eq_true, ↓reduceIte, Nat.reduceAdd, lc1, iterD, dTru, dIsaR, dIsa, dNot, cEqII, cNeII, cEqSS, cNeSS, cLtII, cLeII, cGtII, cGeII, cLtII', cLeII', bAdd, bSub, ixT0, ixL0, ixT1, ixL1, ixT2, ixL2, ixT3, biLenL, biLenT, Bool.not_true, Bool.not_false, Bool.true_and, Bool.false_and, Bool.and_true, Bool.and_false, List.length_map, List.length_range, no2, d64]
  obtain ⟨T, hT⟩ : ∃ T : List D, T = g :: r :: .tuple [.str "is", .str b.name, .int (b.size - 1)] :: .tuple [.str "is", .str b.name, .int b.size] :: .tuple [.str "is", .str b.name, .int (-1)] :: .tuple [.str "is", .str b.name, .bool false] ::
    .tuple [.str "like", .str b.name, .str "zz"] :: .tuple [.str "like", .str b.name, .str b.name] :: .tuple [.str "and", .tuple []] :: .tuple [.str "or", .tuple (List.replicate 9 g)] :: .tuple [.str "or", .tuple (List.replicate 8 g)] ::
    .tuple [.str "and", .list [g]] :: .tuple [.str "yes", .str b.name] :: .tuple [.str "not", g, g] :: .tuple [.str "no"] :: .tuple [.str "and", g] :: ((List.range 9).map R ++ [o2, .tuple [.str "is", .list [.str b.name], .int 0]]) := ⟨_, rfl⟩
  rw [← hT]
  have lT : T.length = 27 := by rw [hT]; rfl
  have sT : ∀ t ∈ T, Sb 40 2000000 t := by
    intro t ht
    have sz0 := sc (b.size - 1) (by omega) (by omega)
    have sz1 := sc b.size (by omega) (by omega)
    have up : ∀ {x : D}, Sb 0 8 x → Sb 1 30 x := fun h => h.mono (by decide) (by decide)
    have lk : ∀ {x : D}, Sb 0 8 x → Sb 40 2000000 (.tuple [.str "like", .str b.name, x]) := fun h => ⟨sm3 rfl rfl h.sm, (sh3 (wd (by simp)) sn.sh h.sh).mono (by decide) (by decide)⟩
    have rep : ∀ n : Nat, n ≤ 9 → Sb 40 2000000 (.tuple [.str "or", .tuple (List.replicate n g)]) := fun n hn => by
      have := sb_tup (n := 9) (a := 2 * (4 + 2) + 4) (b := 183696) (xs := List.replicate n g) (by rw [List.length_replicate]; exact hn) (by decide) fun x hx => by
        rw [(List.mem_replicate.mp hx).2]; exact sg
      exact (sb_pair (sb_wd _ (by simp)) this).mono (by decide) (by decide)
    rw [hT] at ht
    simp only [List.mem_cons, List.mem_append, List.mem_map, List.mem_range, List.not_mem_nil, or_false] at ht
    rcases ht with rfl | rfl | rfl | rfl | rfl | rfl | rfl | rfl | rfl | rfl | rfl | rfl | rfl | rfl | rfl | rfl | ⟨i, hi, rfl⟩ | rfl | rfl
    · exact sg.mono (by decide) (by decide)
    · exact sr.mono (by decide) (by decide)
    · exact (is3 (up sz0)).mono (by decide) (by decide)
    · exact (is3 (up sz1)).mono (by decide) (by decide)
    · exact (is3 (up sm1)).mono (by decide) (by decide)
    · exact (is3 ⟨rfl, .of_b (by decide +kernel)⟩).mono (by decide) (by decide)
    · exact lk (sb_wd 0 (by simp))
    · exact lk sn
    · exact (sb_pair (sb_wd _ (by simp)) (a := 1) (c := 3) ⟨rfl, .of_b (by decide +kernel)⟩).mono (by decide) (by decide)
    · exact rep 9 (by decide)
    · exact rep 8 (by decide)
    · exact (sb_pair (sb_wd _ (by simp)) (sb_lst (n := 1) (a := 2 * (4 + 2) + 4) (b := 183696) (xs := [g]) (Nat.le_refl _) fun x hx => by rw [List.mem_singleton.mp hx]; exact sg)).mono (by decide) (by decide)
    · exact (sb_pair (sb_wd _ (by simp)) sn).mono (by decide) (by decide)
    · exact ⟨sm3 rfl sg.sm sg.sm, (sh3 ((wd (by simp)).mono (by decide) (by decide)) sg.sh sg.sh).mono (by decide) (by decide)⟩
    · exact (sb_one (sb_wd 0 (by simp))).mono (by decide) (by decide)
    · exact (sb_pair (sb_wd _ (by simp)) sg).mono (by decide) (by decide)
    · exact (hR i (by omega)).2.mono (by decide) (by decide)
    · exact (odd_sb ho2).mono (by decide) (by decide)
    · have l1 : Sb 1 14 (.list [.str b.name]) := (sb_lst (n := 1) (Nat.le_refl _) fun d hd => by rw [List.mem_singleton.mp hd]; exact sn).mono (by decide) (by decide)
      exact ⟨sm3 rfl rfl rfl, (sh3 ((wd (by simp)).mono (by decide) (by decide)) l1.sh ((sc 0 (by omega) (by omega)).sh.mono (by decide) (by decide))).mono (by decide) (by decide)⟩
  clear hT
  have hadd := bAddL T L (by rw [lT]; omega)
  obtain ⟨e', g1, s8, s9, s10, he⟩ := forC (f := fun t : D => t) (mi := i__law_right_l2 (CF (k + 14))) (asg := g__law_right_l2) (body := b__law_right_l2 (CF (k + 14)))
    (env := [some ⟨.list (bs.map Bx.d), false⟩, some ⟨.list (es.map PyData.int), false⟩, some ⟨g, false⟩, some ⟨.str b.name, false⟩, some ⟨.int b.size, false⟩, some ⟨.str b.kind, false⟩, some ⟨o, false⟩, some ⟨.list T, true⟩, none, none, none, none])
    (e0 := [some ⟨.list (bs.map Bx.d), false⟩, some ⟨.list (es.map PyData.int), false⟩, some ⟨g, false⟩, some ⟨.str b.name, false⟩, some ⟨.int b.size, false⟩, some ⟨.str b.kind, false⟩, some ⟨o, false⟩, some ⟨.list T, true⟩, none, none, none, none])
    (fun e => ∃ s8 s9 s10, e = [some ⟨.list (bs.map Bx.d), false⟩, some ⟨.list (es.map PyData.int), false⟩, some ⟨g, false⟩, some ⟨.str b.name, false⟩, some ⟨.int b.size, false⟩, some ⟨.str b.kind, false⟩, some ⟨o, false⟩, some ⟨.list T, true⟩, s8, s9, s10, none]) (T ++ L)
    (by
      rw [List.map_id']
      unfold i__law_right_l2
      simp only [mAug, miZip, seqOf, inSignR, ninSignR, eqNil, eqNilT, inStrsT, inStrsL, biAll, biAny, true_and, and_true, and_self, Int.reducePow, Int.reduceNeg, Int.reduceToNat, rangeD, List.cons_append, List.nil_append, List.length_append, bAddL, bAddT, bMod, bNeg, biList, biListT, biTup, biTupT, biMax, isnB, isB, mDct0, sizeLine, Nat.reducePow, Nat.reduceLeDiff, cond_true, cond_false, Bool.not_eq_true, Int.cast_ofNat_Int, decide_true, decide_false, Int.reduceEq, Int.reduceLT, Int.reduceLE, Int.reduceSub, Int.reduceAdd, beq_self_eq_true, mSeq, mRet, mVar, mConst, ev1, ev2, mBool, mTru, mIfS, mIf, mSet, mAsg, mPar2, mSortSet, mSetI, mMeth, mBi, mCall, mTup, mLst, mSl, mPart, mAnd, mOr, mNotT, vAnd, vOr, mSkip, mIfs, mChain, mLenSet, mSetL, mFn, mGet2, miVal, miRange, miEnum, lS, lR, gVar, gTupD, gsCons, gsNil, shEnv, shIdx, inner, hideOwn, wipeE, kOf, frOf, fOut, List.getElem?_cons_zero, List.getElem?_cons_succ, List.getElem?_nil, List.set_cons_zero, List.set_cons_succ, List.map_cons, List.map_nil, List.length_cons, List.length_nil, Bool.false_eq_true, ↓reduceIte, Nat.reduceAdd, lc1, iterD, dTru, dIsaR, dIsa, dNot, cEqII, cNeII, cEqSS, cNeSS, cLtII, cLeII, cGtII, cGeII, cLtII', cLeII', bAdd, bSub, ixT0, ixL0, ixT1, ixL1, ixT2, ixL2, ixT3, biLenL, biLenT, Bool.not_true, Bool.not_false, Bool.true_and, Bool.false_and, Bool.and_true, Bool.and_false, hc65, nL, hadd]) ⟨none, none, none, rfl⟩ fun t ht e ⟨s8, s9, s10, he⟩ => by
      subst he
      refine turn2 k bs ok t ?_ _ _ _ _ _ _ _ s8 s9 s10 none
      rcases List.mem_append.mp ht with ht | ht
      · exact sT t ht
      · exact (sL t ht).mono (by decide) (by decide)
  subst he
  rw [g1]
  have hfin := pc k bs 8 (by decide) g sg.sm
  have ct : cond bs 8 g = true := cond_mono bs 7 g (tr_cond bs 6 g tg)
  rw [ct, show ((8 : Nat) : Int) = 8 from rfl] at hfin
  simp only [mAug, miZip, seqOf, inSignR, ninSignR, eqNil, eqNilT, inStrsT, inStrsL, biAll, biAny, true_and, and_true, and_self, Int.reducePow, Int.reduceNeg, Int.reduceToNat, rangeD, List.cons_append, List.nil_append, List.length_append, bAddL, bAddT, bMod, bNeg, biList, biListT, biTup, biTupT, biMax, isnB, isB, mDct0, sizeLine, Nat.reducePow, Nat.reduceLeDiff, cond_true, cond_false, Bool.not_eq_true, Int.cast_ofNat_Int, decide_true, decide_false, Int.reduceEq, Int.reduceLT, Int.reduceLE, Int.reduceSub, Int.reduceAdd, beq_self_eq_true, mSeq, mRet, mVar, mConst, ev1, ev2, mBool, mTru, mIfS, mIf, mSet, mAsg, mPar2, mSortSet, mSetI, mMeth, mBi, mCall, mTup, mLst, mSl, mPart, mAnd, mOr, mNotT, vAnd, vOr, mSkip, mIfs, mChain, mLenSet, mSetL, mFn, mGet2, miVal, miRange, miEnum, lS, lR, gVar, gTupD, gsCons, gsNil, shEnv, shIdx, inner, hideOwn, wipeE, kOf, frOf, fOut, List.getElem?_cons_zero, List.getElem?_cons_succ, List.getElem?_nil, List.set_cons_zero, List.set_cons_succ, List.map_cons, List.map_nil, List.length_cons, List.length_nil, Bool.false_eq_true, ↓reduceIte, Nat.reduceAdd, lc1, iterD, dTru, dIsaR, dIsa, dNot, cEqII, cNeII, cEqSS, cNeSS, cLtII, cLeII, cGtII, cGeII, cLtII', cLeII', bAdd, bSub, ixT0, ixL0, ixT1, ixL1, ixT2, ixL2, ixT3, biLenL, biLenT, Bool.not_true, Bool.not_false, Bool.true_and, Bool.false_and, Bool.and_true, Bool.and_false, mCallS, HC.Shape.put, fl0, hfin]
  exact ⟨_, rfl⟩
end K02
set_option Elab.async false
set_option linter.all false
set_option maxRecDepth 100000
set_option maxHeartbeats 1000000
set_option autoImplicit false
namespace K02
open PySem PySem.Spec PyProof.Rows L2 HC
theorem turn3 (k : Nat) (c : Int) (i : Nat) (hi : i ≤ 10) (e : HC.Env) (hl : e.length = 4) (h1 : e[1]? = some (some ⟨.int i, false⟩)) (h2 : e[2]? = some (some ⟨.int c, false⟩)) :
    Nx (fun e2 => e2.length = 4 ∧ e2[0]? = e[0]?) (b_law_l1 (CF (k + 15)) e) := by
  obtain ⟨es, n1, n2, n3⟩ := p_numbers (k + 14) c (200 + (i : Int)) 420 90 (by omega) (by omega) (by decide) (by decide) (by decide)
  have hrep : dBin .Mult (.list [.int 420]) (.int 90) = some (.list ((List.replicate 90 420).map PyData.int), true) := rfl
  have gt : ∀ j : Nat, j < 90 → ∃ x : Int, es[j]? = some x := fun j h => ⟨es[j]'(by omega), List.getElem?_eq_getElem _⟩
  obtain ⟨x0, y0⟩ := gt 80 (by decide)
  obtain ⟨x1, y1⟩ := gt 81 (by decide)
  obtain ⟨x2, y2⟩ := gt 82 (by decide)
  obtain ⟨x3, y3⟩ := gt 83 (by decide)
  obtain ⟨x4, y4⟩ := gt 84 (by decide)
  obtain ⟨x5, y5⟩ := gt 85 (by decide)
  obtain ⟨bs, ok, n4⟩ := p_boxes (k + 14) (es.drop 80) x0 x1 x2 x3 x4 x5 (by rw [List.getElem?_drop]; exact y0) (by rw [List.getElem?_drop]; exact y1) (by rw [List.getElem?_drop]; exact y2) (by rw [List.getElem?_drop]; exact y3) (by rw [List.getElem?_drop]; exact y4) (by rw [List.getElem?_drop]; exact y5)
  obtain ⟨fr, n5⟩ := p__law_right k bs ok es n2 n1
  have hc := cutD1 es 80
  rw [show ((80 : Nat) : Int) = 80 from rfl] at hc
  obtain ⟨s0, r0, rfl, hr0⟩ := len1 hl
  obtain ⟨s1, r1, rfl, hr1⟩ := len1 hr0
  obtain ⟨s2, r2, rfl, hr2⟩ := len1 hr1
  obtain ⟨s3, r3, rfl, hr3⟩ := len1 hr2
  cases len0 hr3
  simp only [List.getElem?_cons_succ, List.getElem?_cons_zero, Option.some.injEq] at h1 h2
  subst h1 h2
  unfold b_law_l1
  cases fr <;> simp only [mAug, miZip, seqOf, inSignR, ninSignR, eqNil, eqNilT, inStrsT, inStrsL, biAll, biAny, true_and, and_true, and_self, Int.reducePow, Int.reduceNeg, Int.reduceToNat, rangeD, List.cons_append, List.nil_append, List.length_append, bAddL, bAddT, bMod, bNeg, biList, biListT, biTup, biTupT, biMax, isnB, isB, mDct0, sizeLine, Nat.reducePow, Nat.reduceLeDiff, cond_true, cond_false, Bool.not_eq_true, Int.cast_ofNat_Int, decide_true, decide_false, Int.reduceEq, Int.reduceLT, Int.reduceLE, Int.reduceSub, Int.reduceAdd, beq_self_eq_true, mSeq, mRet, mVar, mConst, ev1, ev2, mBool, mTru, mIfS, mIf, mSet, mAsg, mPar2, mSortSet, mSetI, mMeth, mBi, mCall, mTup, mLst, mSl, mPart, mAnd, mOr, mNotT, vAnd, vOr, mSkip, mIfs, mChain, mLenSet, mSetL, mFn, mGet2, miVal, miRange, miEnum, lS, lR, gVar, gTupD, gsCons, gsNil, shEnv, shIdx, inner, hideOwn, wipeE, kOf, frOf, fOut, List.getElem?_cons_zero, List.getElem?_cons_succ, List.getElem?_nil, List.set_cons_zero, List.set_cons_succ, List.map_cons, List.map_nil, List.length_cons, List.length_nil, Bool.false_eq_true, ↓reduceIte, Nat.reduceAdd, lc1, iterD, dTru, dIsaR, dIsa, dNot, cEqII, cNeII, cEqSS, cNeSS, cLtII, cLeII, cGtII, cGeII, cLtII', cLeII', bAdd, bSub, ixT0, ixL0, ixT1, ixL1, ixT2, ixL2, ixT3, biLenL, biLenT, Bool.not_true, Bool.not_false, Bool.true_and, Bool.false_and, Bool.and_true, Bool.and_false, n3, n4, n5, hrep, hc, NxI]
theorem law_true (ns : List Int) (hl : ns.length ≤ 63) : ∃ fr, CF 16 "law" [.list (ns.map PyData.int)] = some (.bool true, fr) := by
  refine ⟨false, ?_⟩
  rw [c_law]
  unfold b_law
  obtain ⟨e', g1, _, _⟩ := lawLoop 10 (by decide) ns (n := 1) (b_law_l1 (CF 15)) (List.replicate 3 none) rfl fun c i e hi he h0 h1 h2 => by
    obtain ⟨e2, a1, a2, a3⟩ := (turn3 0 c i hi e he h1 h2).ex
    exact ⟨e2, a1, a2, by rw [a3]; exact h0⟩
  have g1' : mFor (i_law_l1 (CF 15)) g_law_l1 (b_law_l1 (CF 15)) [some ⟨.list (ns.map PyData.int), false⟩, none, none, none] = some (.nx e') := g1
  simp only [mAug, miZip, seqOf, inSignR, ninSignR, eqNil, eqNilT, inStrsT, inStrsL, biAll, biAny, true_and, and_true, and_self, Int.reducePow, Int.reduceNeg, Int.reduceToNat, rangeD, List.cons_append, List.nil_append, List.length_append, bAddL, bAddT, bMod, bNeg, biList, biListT, biTup, biTupT, biMax, isnB, isB, mDct0, sizeLine, Nat.reducePow, Nat.reduceLeDiff, cond_true, cond_false, Bool.not_eq_true, Int.cast_ofNat_Int, decide_true, decide_false, Int.reduceEq, Int.reduceLT, Int.reduceLE, Int.reduceSub, Int.reduceAdd, beq_self_eq_true, mSeq, mRet, mVar, mConst, ev1, ev2, mBool, mTru, mIfS, mIf, mSet, mAsg, mPar2, mSortSet, mSetI, mMeth, mBi, mCall, mTup, mLst, mSl, mPart, mAnd, mOr, mNotT, vAnd, vOr, mSkip, mIfs, mChain, mLenSet, mSetL, mFn, mGet2, miVal, miRange, miEnum, lS, lR, gVar, gTupD, gsCons, gsNil, shEnv, shIdx, inner, hideOwn, wipeE, kOf, frOf, fOut, List.getElem?_cons_zero, List.getElem?_cons_succ, List.getElem?_nil, List.set_cons_zero, List.set_cons_succ, List.map_cons, List.map_nil, List.length_cons, List.length_nil, Bool.false_eq_true, ↓reduceIte, Nat.reduceAdd, lc1, iterD, dTru, dIsaR, dIsa, dNot, cEqII, cNeII, cEqSS, cNeSS, cLtII, cLeII, cGtII, cGeII, cLtII', cLeII', bAdd, bSub, ixT0, ixL0, ixT1, ixL1, ixT2, ixL2, ixT3, biLenL, biLenT, Bool.not_true, Bool.not_false, Bool.true_and, Bool.false_and, Bool.and_true, Bool.and_false, g1']
end K02
set_option Elab.async false
set_option linter.all false
open PySem PySem.W PyProof.Rows
set_option maxRecDepth 100000 in
set_option maxHeartbeats 0 in
theorem PySem.Challenge.cw_handclaims_k02_conditions_or_none_holds : PySem.Challenge.rw_handclaims_k02_conditions_or_none.Holds := by
  w_on; o_law
  refine HandSHeadRun.head_any (r := OpenLaw.row PySem.Challenge.rw_handclaims_k02_conditions_or_none) (q := view (OpenLaw.row PySem.Challenge.rw_handclaims_k02_conditions_or_none).prog [K02.lawIx]) (H := HC.hookH 4 K02.ds K02.gs) (ob := HC.obH 4 K02.ds K02.gs) (M := 8000) (loose := K02.loose) (d := HandSHeadRun.topDef (OpenLaw.row PySem.Challenge.rw_handclaims_k02_conditions_or_none).prog K02.lawIx) (kwd := []) (HC.obH_eq 4 K02.ds K02.gs)
    (by kernel_rfl) (fun s => by kernel_rfl) K02.run (by kernel_rfl) (by kernel_rfl) (by kernel_rfl) (by rfl) (by first | assumption | decide +kernel) (by decide +kernel) ⟨rfl, rfl, rfl, rfl, rfl, by decide +kernel⟩ ?hw ?hc
  case hw => w_witness2
  case hc =>
    exact HC.walkT (l := PySem.Challenge.rw_handclaims_k02_conditions_or_none) (m := 63) (k := 16) (n := 60) (x := "_law_script") (y := "law") (ds := K02.ds) (gs := K02.gs) (i := K02.d_law.df) rfl (by decide) (by kernel_rfl) ⟨rfl, by decide, by decide⟩ K02.dsOk (by kernel_rfl) (by kernel_rfl) rfl rfl fun ns hl => K02.law_true ns hl
