import PyProof.Rows.All
import Wide.All
import OpenK.AllK
import Wide.FinOn
import HandS.Base
import HandS.Call
import HandS.List
import HandS.Exc
import HandS.ExcOwn
import HandS.Defaults
import HandS.HeadHook1
import HandS.HeadHook2
import HandS.Deep
import HandS.Wide
import HandS.SortInts
import KE.SortData
import HandS.Comp
import HandS.TryMany
import HandS.TryOnly
import HandS.HeadEnd
import HandS.Words
import HandS.WordsExc
import HandS.EndBits
import KE.KStateDown
import Lean
import HandS.Head0
import HandS.Head1
import HandS.Head2
import PySem.Challenge.RW_pinchfold_k10_counts_refused
set_option Elab.async false
set_option linter.all false
set_option maxRecDepth 100000
set_option maxHeartbeats 4000000

/-! Tree logic: data-level weakest preconditions over the hand layer. -/
namespace TL
open PySem PySem.Spec PyProof.Rows L2

abbrev Frag := PySem.W.Frag
abbrev SS := L2.St

/-! ### heaps -/
def Ex (H H' : Hp) : Prop := ∀ a o, H a = some o → H' a = some o
theorem Ex.refl (H : Hp) : Ex H H := fun _ _ h => h
theorem Ex.trans {H H1 H2 : Hp} (a : Ex H H1) (b : Ex H1 H2) : Ex H H2 := fun x o h => b x o (a x o h)
theorem Ex.new {H : Hp} {p : Addr} {o : HO} (h : H p = none) : Ex H (upd H p o) := fun a u e => by
  rw [upd_ne (ne_of_none e h)]; exact e
theorem Ex.mut {H H' : Hp} {p : Addr} {o : HO} (e : Ex H H') (h : H p = none) : Ex H (upd H' p o) := fun a u ha => by
  rw [upd_ne (ne_of_none ha h)]; exact e a u ha
theorem Ex.upd2 {H H' : Hp} {p : Addr} {o : HO} (e : Ex H H') : Ex (upd H p o) (upd H' p o) := fun a u ha => by
  by_cases hp : a = p
  · subst hp; rw [upd_same] at ha ⊢; exact ha
  · rw [upd_ne hp] at ha ⊢; exact e a u ha
theorem Ex.none {H H' : Hp} (e : Ex H H') {a : Addr} (h : H' a = none) : H a = none := by
  cases q : H a with
  | none => rfl
  | some o => rw [e a o q] at h; cases h
theorem ex_rd {H H' : Hp} {a : Addr} {u : HO} (e : Ex H H') (h : Rd H a u) : Rd H' a u := by
  rcases h with h | ⟨o, h⟩
  · exact .inl (e a _ h)
  · exact .inr ⟨o, e a _ h⟩
theorem ex_l {K : Frag} {H H' : Hp} {a : Addr} {xs : List V} (e : Ex H H') (h : SqL K H a xs) : SqL K H' a xs := by
  rcases h with h | h
  · exact .inl (ex_rd e h)
  · exact .inr h
theorem ex_t {K : Frag} {H H' : Hp} {a : Addr} {xs : List V} (e : Ex H H') (h : SqT K H a xs) : SqT K H' a xs := by
  rcases h with h | h
  · exact .inl (ex_rd e h)
  · exact .inr h

/-! ### data -/
section
variable {K : Frag} {H H' : Hp}
mutual
theorem dp_mono (e : Ex H H') : ∀ (d : PyData) (v : V), Dp K H v d → Dp K H' v d
  | .none, _, h => by cases h; exact .non
  | .bool b, _, h => by cases h; exact .bl b
  | .int i, _, h => by cases h; exact .int i
  | .str x, _, h => by cases h; exact .str x
  | .list ds, _, h => by
    cases h with
    | lst hs ha => exact .lst (ex_l e hs) (dpa_mono e ds _ ha)
  | .tuple ds, _, h => by
    cases h with
    | tup hs ha => exact .tup (ex_t e hs) (dpa_mono e ds _ ha)
  | .dict _, _, h => by cases h
theorem dpa_mono (e : Ex H H') : ∀ (ds : List PyData) (vs : List V), DpAll K H vs ds → DpAll K H' vs ds
  | [], _, h => by cases h; exact .nil
  | d :: ds, _, h => by
    cases h with
    | cons h1 h2 => exact .cons (dp_mono e d _ h1) (dpa_mono e ds _ h2)
end
theorem dp_int {v : V} {i : Int} (h : Dp K H v (.int i)) : v = .int i := by cases h; rfl
theorem dp_str {v : V} {i : Str} (h : Dp K H v (.str i)) : v = .str i := by cases h; rfl
theorem dp_bl {v : V} {i : Bool} (h : Dp K H v (.bool i)) : v = .bl i := by cases h; rfl
theorem dp_non {v : V} (h : Dp K H v .none) : v = .non := by cases h; rfl
theorem dp_lst {v : V} {ds : List PyData} (h : Dp K H v (.list ds)) : ∃ a xs, v = .ref a ∧ SqL K H a xs ∧ DpAll K H xs ds := by
  cases h with
  | lst hs ha => exact ⟨_, _, rfl, hs, ha⟩
theorem dp_tup {v : V} {ds : List PyData} (h : Dp K H v (.tuple ds)) : ∃ a xs, v = .ref a ∧ SqT K H a xs ∧ DpAll K H xs ds := by
  cases h with
  | tup hs ha => exact ⟨_, _, rfl, hs, ha⟩
theorem dpa_len : ∀ {vs : List V} {ds : List PyData}, DpAll K H vs ds → vs.length = ds.length
  | _, [], h => by cases h; rfl
  | _, _ :: _, h => by
    cases h with
    | cons h1 h2 => exact congrArg Nat.succ (dpa_len h2)
theorem dpa_get : ∀ {ds : List PyData} {vs : List V} {i : Nat} {d : PyData}, DpAll K H vs ds → ds[i]? = some d → ∃ v, vs[i]? = some v ∧ Dp K H v d
  | [], _, _, _, _, e => by simp at e
  | x :: ds, _, 0, d, h, e => by
    cases h with
    | cons h1 h2 =>
      have e' : x = d := Option.some.inj e
      subst e'
      exact ⟨_, rfl, h1⟩
  | x :: ds, _, i + 1, d, h, e => by
    cases h with
    | cons h1 h2 => exact dpa_get (i := i) h2 e
theorem dpa_of : ∀ {ds : List PyData} {vs : List V} {i : Nat} {v : V}, DpAll K H vs ds → vs[i]? = some v → ∃ d, ds[i]? = some d ∧ Dp K H v d
  | [], _, _, _, h, e => by cases h; simp at e
  | x :: ds, _, 0, v, h, e => by
    cases h with
    | cons h1 h2 =>
      have e' := Option.some.inj e
      subst e'
      exact ⟨_, rfl, h1⟩
  | x :: ds, _, i + 1, d, h, e => by
    cases h with
    | cons h1 h2 => exact dpa_of (i := i) h2 e
theorem dpa_app : ∀ {ds es : List PyData} {vs ws : List V}, DpAll K H vs ds → DpAll K H ws es → DpAll K H (vs ++ ws) (ds ++ es)
  | [], _, _, _, h, g => by cases h; exact g
  | _ :: _, _, _, _, h, g => by
    cases h with
    | cons h1 h2 => exact .cons h1 (dpa_app h2 g)
theorem dpa_one {v : V} {d : PyData} (h : Dp K H v d) : DpAll K H [v] [d] := .cons h .nil
theorem dpa_set : ∀ {ds : List PyData} {vs : List V} (i : Nat) {v : V} {d : PyData}, DpAll K H vs ds → Dp K H v d → DpAll K H (vs.set i v) (ds.set i d)
  | [], _, _, _, _, h, _ => by cases h; exact .nil
  | _ :: _, _, 0, _, _, h, g => by
    cases h with
    | cons h1 h2 => exact .cons g h2
  | _ :: _, _, i + 1, _, _, h, g => by
    cases h with
    | cons h1 h2 => exact .cons h1 (dpa_set i h2 g)
theorem dpa_take : ∀ (n : Nat) {ds : List PyData} {vs : List V}, DpAll K H vs ds → DpAll K H (vs.take n) (ds.take n)
  | 0, _, _, _ => .nil
  | _ + 1, [], _, h => by cases h; exact .nil
  | n + 1, _ :: _, _, h => by
    cases h with
    | cons h1 h2 => exact .cons h1 (dpa_take n h2)
theorem dpa_drop : ∀ (n : Nat) {ds : List PyData} {vs : List V}, DpAll K H vs ds → DpAll K H (vs.drop n) (ds.drop n)
  | 0, _, _, h => h
  | _ + 1, [], _, h => by cases h; exact .nil
  | n + 1, _ :: _, _, h => by
    cases h with
    | cons h1 h2 => exact dpa_drop n h2
theorem dpa_rev : ∀ {ds : List PyData} {vs : List V}, DpAll K H vs ds → DpAll K H vs.reverse ds.reverse
  | [], _, h => by cases h; exact .nil
  | d :: ds, _, h => by
    cases h with
    | cons h1 h2 =>
      rw [List.reverse_cons, List.reverse_cons]
      exact dpa_app (dpa_rev h2) (dpa_one h1)
theorem dpa_ints : ∀ (ns : List Int), DpAll K H (ns.map V.int) (ns.map PyData.int)
  | [] => .nil
  | n :: ns => .cons (.int n) (dpa_ints ns)
theorem dpa_ints_eq : ∀ {ns : List Int} {vs : List V}, DpAll K H vs (ns.map PyData.int) → vs = ns.map V.int
  | [], _, h => by
    have h' : DpAll K H _ [] := h
    cases h'; rfl
  | n :: ns, _, h => by
    have h' : DpAll K H _ (.int n :: ns.map PyData.int) := h
    cases h' with
    | cons h1 h2 => rw [dp_int h1, dpa_ints_eq h2]; rfl
end

/-! ### slots -/
/-- a bag of draws -/
def BagD (ds : List PyData) : Prop := ∃ (cells : List Int) (i s t : Int), ds = [.list (cells.map .int), .int i, .int s, .int t] ∧ (∀ c ∈ cells, 0 ≤ c) ∧ 0 ≤ i ∧ 0 ≤ s ∧ 0 ≤ t ∧ t < 2147483629
inductive Sl where
  | un
  | d (x : PyData)
  | ol (a : Addr) (ds : List PyData)
  | bg (b : Addr)
  | v (x : V)
  | dt (a : Addr) (kvs : List (List Key × PyData))
  | dk (a : Addr) (kvs : List (Key × PyData))
def Sl.fp : Sl → List Addr
  | .ol a _ => [a]
  | .bg a => [a]
  | .dt a _ => [a]
  | .dk a _ => [a]
  | _ => []
def KVp {κ : Type} (K : Frag) (F : Hp) : List (κ × V) → List (κ × PyData) → Prop := Paired fun p q => p.1 = q.1 ∧ Dp K F p.2 q.2
def SlOk (K : Frag) (F H : Hp) (o : Option V) : Sl → Prop
  | .un => True
  | .d x => ∃ v, o = some v ∧ Dp K F v x
  | .ol a ds => o = some (.ref a) ∧ ∃ vs, H a = some (.lst vs) ∧ DpAll K F vs ds
  | .bg a => o = some (.ref a) ∧ ∃ ds vs, BagD ds ∧ H a = some (.lst vs) ∧ DpAll K F vs ds
  | .v x => o = some x
  | .dt a kvs => o = some (.ref a) ∧ ∃ kvs', H a = some (.dT kvs') ∧ KVp K F kvs' kvs
  | .dk a kvs => o = some (.ref a) ∧ ∃ kvs', H a = some (.dK kvs') ∧ KVp K F kvs' kvs
def Own (env : List Sl) (a : Addr) : Prop := ∃ (i : Nat) (s : Sl), env[i]? = some s ∧ a ∈ s.fp

theorem paired_imp {α β : Type} {R S : α → β → Prop} : ∀ {xs : List α} {ys : List β}, Paired R xs ys → (∀ a b, R a b → S a b) → Paired S xs ys
  | _, _, .nil, _ => .nil
  | _, _, .cons r t, f => .cons (f _ _ r) (paired_imp t f)
theorem kvp_mono {κ : Type} {K : Frag} {F F' : Hp} (e : Ex F F') {a : List (κ × V)} {b : List (κ × PyData)} (h : KVp K F a b) : KVp K F' a b :=
  paired_imp h fun _ _ z => ⟨z.1, dp_mono e _ _ z.2⟩

theorem slok_mono {K : Frag} {F F' H H' : Hp} {o : Option V} {s : Sl} (e : Ex F F') (k : ∀ a ∈ s.fp, ∀ u, H a = some u → H' a = some u) (h : SlOk K F H o s) : SlOk K F' H' o s := by
  cases s with
  | un => trivial
  | d x => obtain ⟨v, h1, h2⟩ := h; exact ⟨v, h1, dp_mono e _ _ h2⟩
  | ol a ds => obtain ⟨h1, vs, h2, h3⟩ := h; exact ⟨h1, vs, k a (by simp [Sl.fp]) _ h2, dpa_mono e _ _ h3⟩
  | bg a => obtain ⟨h1, ds, vs, h4, h2, h3⟩ := h; exact ⟨h1, ds, vs, h4, k a (by simp [Sl.fp]) _ h2, dpa_mono e _ _ h3⟩
  | v x => exact h
  | dt a kvs => obtain ⟨h1, vs, h2, h3⟩ := h; exact ⟨h1, vs, k a (by simp [Sl.fp]) _ h2, kvp_mono e h3⟩
  | dk a kvs => obtain ⟨h1, vs, h2, h3⟩ := h; exact ⟨h1, vs, k a (by simp [Sl.fp]) _ h2, kvp_mono e h3⟩
theorem slok_there {K : Frag} {F H : Hp} {o : Option V} {s : Sl} (h : SlOk K F H o s) {a : Addr} (ha : a ∈ s.fp) : H a ≠ none := by
  cases s with
  | un => cases ha
  | d x => cases ha
  | v x => cases ha
  | ol b ds => obtain ⟨_, vs, h2, _⟩ := h; have e : a = b := by simpa [Sl.fp] using ha
               subst e; rw [h2]; intro z; cases z
  | bg b => obtain ⟨_, ds, vs, _, h2, _⟩ := h; have e : a = b := by simpa [Sl.fp] using ha
            subst e; rw [h2]; intro z; cases z
  | dt b ds => obtain ⟨_, vs, h2, _⟩ := h; have e : a = b := by simpa [Sl.fp] using ha
               subst e; rw [h2]; intro z; cases z
  | dk b ds => obtain ⟨_, vs, h2, _⟩ := h; have e : a = b := by simpa [Sl.fp] using ha
               subst e; rw [h2]; intro z; cases z

/-- what stood at a def's entry: the frozen part, the heap, the objects that may be changed -/
structure G where
  F0 : Hp
  H0 : Hp
  M : List Addr

structure Sk (K : Frag) (F H : Hp) (σ : SS) (env : List Sl) : Prop where
  len : σ.length = env.length
  sl : ∀ (i : Nat) (s : Sl), env[i]? = some s → SlOk K F H (σ[i]?.getD none) s
  nd : ∀ (i j : Nat) (s t : Sl) (a : Addr), env[i]? = some s → env[j]? = some t → a ∈ s.fp → a ∈ t.fp → i = j
  fr : ∀ a, Own env a → F a = none
  ex : Ex F H
structure St (K : Frag) (g : G) (F H : Hp) (σ : SS) (env : List Sl) : Prop extends Sk K F H σ env where
  g1 : ∀ a o, g.H0 a = some o → a ∉ g.M → H a = some o
  g2 : ∀ a, Own env a → g.H0 a = none ∨ a ∈ g.M
  g3 : Ex g.F0 F
  g4 : ∀ a, F a ≠ none → g.F0 a ≠ none ∨ g.H0 a = none
  g5 : ∀ a ∈ g.M, H a ≠ none
  g6 : ∀ a ∈ g.M, g.H0 a ≠ none

section
variable {K : Frag} {g : G} {F F' H H' : Hp} {σ : SS} {env : List Sl} {p : Addr} {o : HO}
theorem Sk.there (st : Sk K F H σ env) {a : Addr} (h : Own env a) : H a ≠ none := by
  obtain ⟨i, s, h1, h2⟩ := h
  exact slok_there (st.sl i s h1) h2
theorem Sk.notown (st : Sk K F H σ env) (h : H p = none) : ¬ Own env p := fun z => st.there z h
/-- the heap grows -/
theorem Sk.grow (st : Sk K F H σ env) (e : Ex H H') : Sk K F H' σ env :=
  ⟨st.len, fun i s h => slok_mono (Ex.refl F) (fun a _ u q => e a u q) (st.sl i s h), st.nd, st.fr, st.ex.trans e⟩
theorem St.grow (st : St K g F H σ env) (e : Ex H H') : St K g F H' σ env :=
  { st.toSk.grow e with g1 := fun a o h m => e a o (st.g1 a o h m), g2 := st.g2, g3 := st.g3, g4 := st.g4,
                        g5 := fun a m z => st.g5 a m (e.none z), g6 := st.g6 }
theorem St.alloc (st : St K g F H σ env) (h : H p = none) : St K g F (upd H p o) σ env := st.grow (Ex.new h)
/-- frozen part and heap grow by what is fresh -/
theorem St.h0 (st : St K g F H σ env) (h : H p = none) : g.H0 p = none := by
  cases q : g.H0 p with
  | none => rfl
  | some u =>
    by_cases m : p ∈ g.M
    · exact absurd h (st.g5 p m)
    · rw [st.g1 p u q m] at h; cases h
theorem Sk.freeze (st : Sk K F H σ env) (h : H p = some o) (hF : F p = none) (hn : ¬ Own env p) : Sk K (upd F p o) H σ env where
  len := st.len
  sl := fun i s e => slok_mono (Ex.new hF) (fun a _ u q => q) (st.sl i s e)
  nd := st.nd
  fr := fun a ha => by
    have hne : a ≠ p := fun z => hn (z ▸ ha)
    rw [upd_ne hne]; exact st.fr a ha
  ex := fun a u q => by
    by_cases hp : a = p
    · subst hp; rw [upd_same] at q; cases q; exact h
    · rw [upd_ne hp] at q; exact st.ex a u q
theorem St.freeze (st : St K g F H σ env) (h : H p = some o) (hF : F p = none) (hn : ¬ Own env p) (h0 : g.H0 p = none) : St K g (upd F p o) H σ env :=
  { st.toSk.freeze h hF hn with
    g1 := st.g1, g2 := st.g2, g3 := st.g3.trans (Ex.new hF), g5 := st.g5, g6 := st.g6,
    g4 := fun a ha => by
      by_cases hp : a = p
      · subst hp; exact .inr h0
      · rw [upd_ne hp] at ha; exact st.g4 a ha }
theorem St.allocF (st : St K g F H σ env) (h : H p = none) : St K g (upd F p o) (upd H p o) σ env :=
  (st.alloc (o := o) h).freeze upd_same (st.ex.none h) (st.toSk.notown h) (st.h0 h)
theorem getD_set {σ : SS} {i j : Nat} {v : V} (hl : i < σ.length) : ((σ.set i (some v))[j]?.getD none) = if i = j then some v else (σ[j]?.getD none) := by
  rw [List.getElem?_set]
  by_cases h : i = j
  · subst h; rw [if_pos rfl, if_pos rfl, if_pos hl]; rfl
  · rw [if_neg h, if_neg h]
theorem set_get {env : List Sl} {i j : Nat} {s t : Sl} (h : (env.set i s)[j]? = some t) : (i = j ∧ t = s) ∨ (i ≠ j ∧ env[j]? = some t) := by
  rw [List.getElem?_set] at h
  by_cases e : i = j
  · subst e
    rw [if_pos rfl] at h
    split at h
    · exact .inl ⟨rfl, (Option.some.inj h).symm⟩
    · cases h
  · rw [if_neg e] at h; exact .inr ⟨e, h⟩
theorem own_set {i : Nat} {s : Sl} {a : Addr} (h : Own (env.set i s) a) : a ∈ s.fp ∨ Own env a := by
  obtain ⟨j, t, h1, h2⟩ := h
  rcases set_get h1 with ⟨_, rfl⟩ | ⟨_, h1⟩
  · exact .inl h2
  · exact .inr ⟨j, t, h1, h2⟩
/-- a slot is stored: s is a new description, its footprint new or the slot's own -/
theorem Sk.set {i : Nat} {v : V} {s : Sl} (st : Sk K F H σ env) (hi : i < env.length) (h : SlOk K F H (some v) s) (hfr : ∀ a ∈ s.fp, F a = none)
    (hn : ∀ a ∈ s.fp, ∀ (j : Nat) (t : Sl), j ≠ i → env[j]? = some t → a ∉ t.fp) : Sk K F H (σ.set i (some v)) (env.set i s) where
  len := by rw [List.length_set, List.length_set]; exact st.len
  sl := fun j t e => by
    rw [getD_set (by rw [st.len]; exact hi)]
    rcases set_get e with ⟨rfl, rfl⟩ | ⟨ne, e⟩
    · rw [if_pos rfl]; exact h
    · rw [if_neg ne]; exact st.sl j t e
  nd := fun j k t u a ej ek ht hu => by
    rcases set_get ej with ⟨rfl, rfl⟩ | ⟨ne, ej2⟩
    · rcases set_get ek with ⟨rfl, rfl⟩ | ⟨ne2, ek⟩
      · rfl
      · exact absurd hu (hn a ht k u (Ne.symm ne2) ek)
    · rcases set_get ek with ⟨rfl, rfl⟩ | ⟨ne2, ek⟩
      · exact absurd ht (hn a hu j t (Ne.symm ne) ej2)
      · exact st.nd j k t u a ej2 ek ht hu
  fr := fun a ha => by
    rcases own_set ha with h1 | h1
    · exact hfr a h1
    · exact st.fr a h1
  ex := st.ex
theorem St.set {i : Nat} {v : V} {s : Sl} (st : St K g F H σ env) (hi : i < env.length) (h : SlOk K F H (some v) s) (hfr : ∀ a ∈ s.fp, F a = none)
    (hn : ∀ a ∈ s.fp, ∀ (j : Nat) (t : Sl), j ≠ i → env[j]? = some t → a ∉ t.fp) (hg : ∀ a ∈ s.fp, g.H0 a = none ∨ a ∈ g.M) : St K g F H (σ.set i (some v)) (env.set i s) :=
  { st.toSk.set hi h hfr hn with
    g1 := st.g1, g3 := st.g3, g4 := st.g4, g5 := st.g5, g6 := st.g6,
    g2 := fun a ha => by
      rcases own_set ha with h1 | h1
      · exact hg a h1
      · exact st.g2 a h1 }
theorem St.setD {i : Nat} {v : V} {x : PyData} (st : St K g F H σ env) (hi : i < env.length) (h : Dp K F v x) : St K g F H (σ.set i (some v)) (env.set i (.d x)) :=
  st.set hi ⟨v, rfl, h⟩ (fun _ h => by cases h) (fun _ h => by cases h) (fun _ h => by cases h)
theorem St.setV {i : Nat} {v : V} (st : St K g F H σ env) (hi : i < env.length) : St K g F H (σ.set i (some v)) (env.set i (.v v)) :=
  st.set (s := .v v) hi rfl (fun _ h => by cases h) (fun _ h => by cases h) (fun _ h => by cases h)
theorem St.setL {i : Nat} {a : Addr} {vs : List V} {ds : List PyData} (st : St K g F H σ env) (hi : i < env.length) (hH : H a = some (.lst vs)) (hd : DpAll K F vs ds) (hF : F a = none) (hn : ¬ Own env a) (h0 : g.H0 a = none) :
    St K g F H (σ.set i (some (.ref a))) (env.set i (.ol a ds)) := by
  have one : ∀ b ∈ (Sl.ol a ds).fp, b = a := fun b hb => by simpa [Sl.fp] using hb
  exact st.set (s := .ol a ds) hi ⟨rfl, vs, hH, hd⟩ (fun b hb => by rw [one b hb]; exact hF) (fun b hb j t _ e ht => hn ⟨j, t, e, by rw [← one b hb]; exact ht⟩) (fun b hb => by rw [one b hb]; exact .inl h0)
/-- an object of a slot is changed in place -/
theorem St.write {i : Nat} {a : Addr} {s s' : Sl} {o' : HO} (st : St K g F H σ env) (hs : env[i]? = some s) (ha : s.fp = [a]) (ha' : s'.fp = [a]) (h : SlOk K F (upd H a o') (σ[i]?.getD none) s') : St K g F (upd H a o') σ (env.set i s') := by
  have own : Own env a := ⟨i, s, hs, by rw [ha]; simp⟩
  have hF : F a = none := st.fr a own
  have hi : i < env.length := (List.getElem?_eq_some_iff.mp hs).1
  have sub : ∀ b, Own (env.set i s') b → Own env b := fun b hb => by
    rcases own_set hb with h1 | h1
    · rw [ha'] at h1
      have e : b = a := by simpa using h1
      rw [e]; exact own
    · exact h1
  have oth : ∀ (j : Nat) (t : Sl), i ≠ j → env[j]? = some t → a ∉ t.fp := fun j t ne e ht => ne (st.nd i j s t a hs e (by rw [ha]; simp) ht)
  refine { len := by rw [List.length_set]; exact st.len, sl := fun j t e => ?_, nd := fun j k t u b ej ek ht hu => ?_, fr := fun b hb => st.fr b (sub b hb), ex := st.ex.mut hF,
           g1 := fun b u q m => ?_, g2 := fun b hb => st.g2 b (sub b hb), g3 := st.g3, g4 := st.g4, g5 := fun b m z => ?_, g6 := st.g6 }
  · rcases set_get e with ⟨rfl, rfl⟩ | ⟨ne, e⟩
    · exact h
    · refine slok_mono (Ex.refl F) (fun b hb u q => ?_) (st.sl j t e)
      have hne : b ≠ a := fun z => oth j t ne e (z ▸ hb)
      rw [upd_ne hne]; exact q
  · rcases set_get ej with ⟨rfl, rfl⟩ | ⟨ne, ej2⟩
    · rcases set_get ek with ⟨rfl, rfl⟩ | ⟨ne2, ek⟩
      · rfl
      · rw [ha'] at ht
        have e : b = a := by simpa using ht
        exact absurd (e ▸ hu) (oth k u ne2 ek)
    · rcases set_get ek with ⟨rfl, rfl⟩ | ⟨ne2, ek⟩
      · rw [ha'] at hu
        have e : b = a := by simpa using hu
        exact absurd (e ▸ ht) (oth j t ne ej2)
      · exact st.nd j k t u b ej2 ek ht hu
  · have hne : b ≠ a := fun z => by
      subst z
      rcases st.g2 b own with h1 | h1
      · rw [h1] at q; cases q
      · exact m h1
    rw [upd_ne hne]; exact st.g1 b u q m
  · by_cases hb : b = a
    · subst hb; rw [upd_same] at z; cases z
    · rw [upd_ne hb] at z; exact st.g5 b m z
/-- a slot's description is weakened -/
theorem St.weak {i : Nat} {s s' : Sl} (st : St K g F H σ env) (hs : env[i]? = some s) (hfp : ∀ a ∈ s'.fp, a ∈ s.fp) (h : SlOk K F H (σ[i]?.getD none) s → SlOk K F H (σ[i]?.getD none) s') : St K g F H σ (env.set i s') := by
  have sub : ∀ b, Own (env.set i s') b → Own env b := fun b hb => by
    rcases own_set hb with h1 | h1
    · exact ⟨i, s, hs, hfp b h1⟩
    · exact h1
  refine { len := by rw [List.length_set]; exact st.len, sl := fun j t e => ?_, nd := fun j k t u b ej ek ht hu => ?_, fr := fun b hb => st.fr b (sub b hb), ex := st.ex,
           g1 := st.g1, g2 := fun b hb => st.g2 b (sub b hb), g3 := st.g3, g4 := st.g4, g5 := st.g5, g6 := st.g6 }
  · rcases set_get e with ⟨rfl, rfl⟩ | ⟨ne, e⟩
    · exact h (st.sl i s hs)
    · exact st.sl j t e
  · rcases set_get ej with ⟨rfl, rfl⟩ | ⟨ne, ej2⟩
    · rcases set_get ek with ⟨rfl, rfl⟩ | ⟨ne2, ek⟩
      · rfl
      · exact st.nd i k s u b hs ek (hfp b ht) hu
    · rcases set_get ek with ⟨rfl, rfl⟩ | ⟨ne2, ek⟩
      · exact st.nd j i t s b ej2 hs ht (hfp b hu)
      · exact st.nd j k t u b ej2 ek ht hu
end
end TL

namespace TL
open PySem PySem.Spec PyProof.Rows L2

/-! ### judgements -/
inductive Exc where
  | own (n : Str)
def ExcW (K : Frag) (W : WX) (σ : SS) (H : Hp) : Exc → Prop
  | .own n => W (.ref (He.ga K n)) none σ H
structure SemE (X : Cx) (e : Expr) (σ : SS) (H : Hp) (Q : VK) : Prop where
  run : ∀ (pins : List (Addr × Obj)) (s : Shared), Inv X pins σ H s → wpAny (model X.prog X.w) X.A (eval e X.env) (EP X pins σ Q) X.xe s
def semE (X : Cx) (e : Expr) : TE := fun σ H Q => SemE X e σ H Q
structure SemT (X : Cx) (e : Expr) (σ : SS) (H : Hp) (Q : Bool → Hp → Prop) : Prop where
  run : ∀ (pins : List (Addr × Obj)) (s : Shared), Inv X pins σ H s → wpAny (model X.prog X.w) X.A (isTrue e X.env (eval e X.env)) (TP X pins σ Q) X.xe s
def semT (X : Cx) (e : Expr) : TT := fun σ H Q => SemT X e σ H Q
structure SemS (X : Cx) (st : List Stmt) (D : Ends) (σ : SS) (H : Hp) : Prop where
  run : ∀ (pins : List (Addr × Obj)) (s : Shared), Inv X pins σ H s → wpAny (model X.prog X.w) X.A (execs st X.env) (SP X pins D) X.xe s
def semS (X : Cx) (st : List Stmt) : TS := fun D σ H => SemS X st D σ H
section
variable {X : Cx}
theorem peS (e : Expr) : PE X e (semE X e) := ⟨fun pins s _ _ _ I h => h.run pins s I⟩
theorem ptS (e : Expr) : PT X e (semT X e) := ⟨fun pins s _ _ _ I h => h.run pins s I⟩
theorem pssS (st : List Stmt) : PSs X st (semS X st) := ⟨fun pins s _ _ _ I h => h.run pins s I⟩
theorem semE_of {e : Expr} {t : TE} (h : PE X e t) {σ : SS} {H : Hp} {Q : VK} (q : t σ H Q) : semE X e σ H Q := ⟨fun pins s I => h.run pins s σ H Q I q⟩
theorem semT_of {e : Expr} {t : TT} (h : PT X e t) {σ : SS} {H : Hp} {Q : Bool → Hp → Prop} (q : t σ H Q) : semT X e σ H Q := ⟨fun pins s I => h.run pins s σ H Q I q⟩
theorem semS_of {st : List Stmt} {t : TS} (h : PSs X st t) {D : Ends} {σ : SS} {H : Hp} (q : t D σ H) : semS X st D σ H := ⟨fun pins s I => h.run pins s σ H D I q⟩
end

/-- how a value is known: z: by the frozen part; else it is an object that a slot holds -/
def Rd (K : Frag) (F : Hp) (env : List Sl) (z : Bool) (v : V) (d : PyData) : Prop :=
  match z with
  | true => Dp K F v d
  | false => ∃ a ds, (∃ i : Nat, env[i]? = some (Sl.ol a ds)) ∧ v = .ref a ∧ d = .list ds
def HX (X : Cx) (g : G) (env : List Sl) (Ψ : Exc → Prop) (W : WX) (σ : SS) : Prop := ∀ c F' H', Ψ c → St X.K g F' H' σ env → ExcW X.K W σ H' c
def WE (X : Cx) (g : G) (e : Expr) (env : List Sl) (Φ : PyData → Bool → Prop) (Ψ : Exc → Prop) : Prop :=
  ∀ (W : WX), Takes X W → ∀ (σ : SS) (F H : Hp), St X.K g F H σ env → HX X g env Ψ W σ →
    ∀ Q : VK, (∀ d z v F' H', Φ d z → St X.K g F' H' σ env → Ex F F' → Rd X.K F' env z v d → Q v H') → semE X e σ H Q
/-- a test -/
def WT (X : Cx) (g : G) (e : Expr) (env : List Sl) (Φ : Bool → Prop) (Ψ : Exc → Prop) : Prop :=
  ∀ (W : WX), Takes X W → ∀ (σ : SS) (F H : Hp), St X.K g F H σ env → HX X g env Ψ W σ →
    ∀ Q : Bool → Hp → Prop, (∀ b F' H', Φ b → St X.K g F' H' σ env → Ex F F' → Q b H') → semT X e σ H Q
/-- a new list, no slot's -/
def NewL (K : Frag) (g : G) (F H : Hp) (env : List Sl) (v : V) (ds : List PyData) : Prop :=
  ∃ p vs, v = .ref p ∧ H p = some (.lst vs) ∧ DpAll K F vs ds ∧ F p = none ∧ ¬ Own env p ∧ g.H0 p = none
def WN (X : Cx) (g : G) (e : Expr) (env : List Sl) (Φ : List PyData → Prop) (Ψ : Exc → Prop) : Prop :=
  ∀ (W : WX), Takes X W → ∀ (σ : SS) (F H : Hp), St X.K g F H σ env → HX X g env Ψ W σ →
    ∀ Q : VK, (∀ ds v F' H', Φ ds → St X.K g F' H' σ env → Ex F F' → NewL X.K g F' H' env v ds → Q v H') → semE X e σ H Q
/-- arguments: data, or a slot handed on -/
inductive Ar where
  | d (x : PyData)
  | s (i : Nat)
def ArOk (K : Frag) (F : Hp) (σ : SS) (v : V) : Ar → Prop
  | .d x => Dp K F v x
  | .s i => σ[i]? = some (some v)
def ArAll (K : Frag) (F : Hp) (σ : SS) : List V → List Ar → Prop
  | [], [] => True
  | v :: vs, a :: as => ArOk K F σ v a ∧ ArAll K F σ vs as
  | _, _ => False
def WA (X : Cx) (g : G) (es : List Expr) (env : List Sl) (Φ : List Ar → Prop) (Ψ : Exc → Prop) : Prop :=
  ∃ t, PA X es t ∧ ∀ (W : WX), Takes X W → ∀ (σ : SS) (F H : Hp), St X.K g F H σ env → HX X g env Ψ W σ →
    ∀ Q : List V → Hp → Prop, (∀ as vs F' H', Φ as → St X.K g F' H' σ env → Ex F F' → ArAll X.K F' σ vs as → Q vs H') → t σ H Q

section
variable {X : Cx} {g : G} {env : List Sl} {Ψ : Exc → Prop} {pos : Pos} {a b c e : Expr} {K : Frag} {F F' H : Hp} {σ : SS}
theorem rd_mono {z : Bool} {v : V} {d : PyData} (e : Ex F F') (h : Rd K F env z v d) : Rd K F' env z v d := by
  cases z with
  | true => exact dp_mono e _ _ h
  | false => exact h
/-- as it stands now -/
theorem rd_now {z : Bool} {v : V} {d : PyData} (st : Sk K F H σ env) (h : Rd K F env z v d) : Dp K H v d := by
  cases z with
  | true => exact dp_mono st.ex _ _ h
  | false =>
    obtain ⟨a, ds, ⟨i, hi⟩, rfl, rfl⟩ := h
    obtain ⟨_, vs, h2, h3⟩ := st.sl i _ hi
    exact .lst (SqL.of h2) (dpa_mono st.ex _ _ h3)
/-- a list: where it stands, its items by the frozen part -/
theorem rd_lst {z : Bool} {v : V} {ds : List PyData} (st : Sk K F H σ env) (h : Rd K F env z v (.list ds)) : ∃ a vs, v = .ref a ∧ SqL K H a vs ∧ DpAll K F vs ds := by
  cases z with
  | true =>
    obtain ⟨a, xs, rfl, h2, h3⟩ := dp_lst h
    exact ⟨a, xs, rfl, ex_l st.ex h2, h3⟩
  | false =>
    obtain ⟨a, ds', ⟨i, hi⟩, rfl, e⟩ := h
    injection e with e
    subst e
    obtain ⟨_, vs, h2, h3⟩ := st.sl i _ hi
    exact ⟨a, vs, rfl, SqL.of h2, h3⟩
theorem rd_tup {z : Bool} {v : V} {ds : List PyData} (st : Sk K F H σ env) (h : Rd K F env z v (.tuple ds)) : ∃ a vs, v = .ref a ∧ SqT K H a vs ∧ DpAll K F vs ds := by
  cases z with
  | true =>
    obtain ⟨a, xs, rfl, h2, h3⟩ := dp_tup h
    exact ⟨a, xs, rfl, ex_t st.ex h2, h3⟩
  | false => obtain ⟨_, _, _, _, e⟩ := h; cases e
theorem rd_int {z : Bool} {v : V} {i : Int} (h : Rd K F env z v (.int i)) : v = .int i := by
  cases z with
  | true => exact dp_int h
  | false => obtain ⟨_, _, _, _, e⟩ := h; cases e
theorem rd_str {z : Bool} {v : V} {i : Str} (h : Rd K F env z v (.str i)) : v = .str i := by
  cases z with
  | true => exact dp_str h
  | false => obtain ⟨_, _, _, _, e⟩ := h; cases e
theorem rd_bl {z : Bool} {v : V} {i : Bool} (h : Rd K F env z v (.bool i)) : v = .bl i := by
  cases z with
  | true => exact dp_bl h
  | false => obtain ⟨_, _, _, _, e⟩ := h; cases e
theorem rd_non {z : Bool} {v : V} (h : Rd K F env z v .none) : v = .non := by
  cases z with
  | true => exact dp_non h
  | false => obtain ⟨_, _, _, _, e⟩ := h; cases e

/-! ### combinators -/
theorem WE.mono {Φ Φ' : PyData → Bool → Prop} (h : WE X g e env Φ Ψ) (k : ∀ d z, Φ d z → Φ' d z) : WE X g e env Φ' Ψ :=
  fun W tk σ F H st hx Q hQ => h W tk σ F H st hx Q fun d z v F' H' p => hQ d z v F' H' (k d z p)
/-- a two-place operation on data -/
def DOp (K : Frag) (g : G) (env : List Sl) (r : R2) (d1 : PyData) (z1 : Bool) (d2 : PyData) (z2 : Bool) (Φ : PyData → Bool → Prop) : Prop :=
  ∀ (σ : SS) (F H : Hp) (v1 v2 : V), St K g F H σ env → Rd K F env z1 v1 d1 → Rd K F env z2 v2 d2 →
    ∀ Q : VK, (∀ d z v F' H', Φ d z → St K g F' H' σ env → Ex F F' → Rd K F' env z v d → Q v H') → r v1 v2 H Q
theorem we_op {Φ : PyData → Bool → Prop} {R : PyData → Bool → PyData → Bool → Prop} {r : R2} (hop : PE X e (tOp r (semE X a) (semE X b)))
    (hr : ∀ d1 z1 d2 z2, R d1 z1 d2 z2 → DOp X.K g env r d1 z1 d2 z2 Φ)
    (h : WE X g a env (fun d1 z1 => WE X g b env (fun d2 z2 => R d1 z1 d2 z2) Ψ) Ψ) : WE X g e env Φ Ψ := by
  intro W tk σ F H st hx Q hQ
  refine semE_of hop ?_
  refine h W tk σ F H st hx _ fun d1 z1 v1 F1 H1 h1 st1 e1 r1 => ?_
  refine h1 W tk σ F1 H1 st1 hx _ fun d2 z2 v2 F2 H2 h2 st2 e2 r2 => ?_
  exact hr _ _ _ _ h2 σ F2 H2 v1 v2 st2 (rd_mono e2 r1) r2 Q fun d z v F' H' hp s3 e3 r3 => hQ d z v F' H' hp s3 ((e1.trans e2).trans e3) r3
theorem wt_op {Φ : Bool → Prop} {R : PyData → Bool → PyData → Bool → Prop} {r : R2} (hop : PT X e (tTest (tOp r (semE X a) (semE X b))))
    (hr : ∀ d1 z1 d2 z2, R d1 z1 d2 z2 → DOp X.K g env r d1 z1 d2 z2 (fun d _ => ∃ k, d = .bool k ∧ Φ k))
    (h : WE X g a env (fun d1 z1 => WE X g b env (fun d2 z2 => R d1 z1 d2 z2) Ψ) Ψ) : WT X g e env Φ Ψ := by
  intro W tk σ F H st hx Q hQ
  refine semT_of hop ?_
  refine h W tk σ F H st hx _ fun d1 z1 v1 F1 H1 h1 st1 e1 r1 => ?_
  refine h1 W tk σ F1 H1 st1 hx _ fun d2 z2 v2 F2 H2 h2 st2 e2 r2 => ?_
  refine hr _ _ _ _ h2 σ F2 H2 v1 v2 st2 (rd_mono e2 r1) r2 _ fun d z v F' H' ⟨k, hd, hp⟩ s3 e3 r3 => ?_
  subst hd
  exact ⟨k, rd_bl r3, hQ k F' H' hp s3 ((e1.trans e2).trans e3)⟩
def DUn (K : Frag) (g : G) (env : List Sl) (r : V → Hp → VK → Prop) (d1 : PyData) (z1 : Bool) (Φ : PyData → Bool → Prop) : Prop :=
  ∀ (σ : SS) (F H : Hp) (v1 : V), St K g F H σ env → Rd K F env z1 v1 d1 →
    ∀ Q : VK, (∀ d z v F' H', Φ d z → St K g F' H' σ env → Ex F F' → Rd K F' env z v d → Q v H') → r v1 H Q
theorem we_un1 {Φ : PyData → Bool → Prop} {R : PyData → Bool → Prop} {r : V → Hp → VK → Prop} (hop : PE X e (tUn r (semE X a)))
    (hr : ∀ d1 z1, R d1 z1 → DUn X.K g env r d1 z1 Φ) (h : WE X g a env R Ψ) : WE X g e env Φ Ψ := by
  intro W tk σ F H st hx Q hQ
  refine semE_of hop ?_
  refine h W tk σ F H st hx _ fun d1 z1 v1 F1 H1 h1 st1 e1 r1 => ?_
  exact hr _ _ h1 σ F1 H1 v1 st1 r1 Q fun d z v F' H' hp s3 e3 r3 => hQ d z v F' H' hp s3 (e1.trans e3) r3
theorem dop_of {r : R2} {d1 d2 d : PyData} {z1 z2 z : Bool} {Φ : PyData → Bool → Prop} (hp : Φ d z)
    (h : ∀ (σ : SS) (F H : Hp) (v1 v2 : V) (Q : VK), St K g F H σ env → Rd K F env z1 v1 d1 → Rd K F env z2 v2 d2 → (∀ v, Rd K F env z v d → Q v H) → r v1 v2 H Q) : DOp K g env r d1 z1 d2 z2 Φ :=
  fun σ F H v1 v2 st r1 r2 Q hQ => h σ F H v1 v2 Q st r1 r2 fun v rv => hQ d z v F H hp st (Ex.refl F) rv
theorem dop_l {r r' : R2} {d1 d2 : PyData} {z1 z2 : Bool} {Φ : PyData → Bool → Prop} (h : DOp K g env r d1 z1 d2 z2 Φ) : DOp K g env (fun x y H Q => r x y H Q ∨ r' x y H Q) d1 z1 d2 z2 Φ :=
  fun σ F H v1 v2 st r1 r2 Q hQ => .inl (h σ F H v1 v2 st r1 r2 Q hQ)
theorem dop_r {r r' : R2} {d1 d2 : PyData} {z1 z2 : Bool} {Φ : PyData → Bool → Prop} (h : DOp K g env r' d1 z1 d2 z2 Φ) : DOp K g env (fun x y H Q => r x y H Q ∨ r' x y H Q) d1 z1 d2 z2 Φ :=
  fun σ F H v1 v2 st r1 r2 Q hQ => .inr (h σ F H v1 v2 st r1 r2 Q hQ)
/-- a new object, frozen at once -/
theorem put_lst {p : Addr} {vs : List V} {ds : List PyData} {Φ : PyData → Bool → Prop} {Q : VK} (st : St K g F H σ env) (hn : H p = none) (hd : DpAll K F vs ds) (hp : Φ (.list ds) true)
    (hQ : ∀ d z v F' H', Φ d z → St K g F' H' σ env → Ex F F' → Rd K F' env z v d → Q v H') : Q (.ref p) (upd H p (.lst vs)) := by
  have hF : F p = none := st.ex.none hn
  exact hQ (.list ds) true (.ref p) (upd F p (.lst vs)) _ hp (st.allocF hn) (Ex.new hF) (.lst (SqL.of upd_same) (dpa_mono (Ex.new hF) _ _ hd))
theorem put_tup {p : Addr} {vs : List V} {ds : List PyData} {Φ : PyData → Bool → Prop} {Q : VK} (st : St K g F H σ env) (hn : H p = none) (hd : DpAll K F vs ds) (hp : Φ (.tuple ds) true)
    (hQ : ∀ d z v F' H', Φ d z → St K g F' H' σ env → Ex F F' → Rd K F' env z v d → Q v H') : Q (.ref p) (upd H p (.tup vs)) := by
  have hF : F p = none := st.ex.none hn
  exact hQ (.tuple ds) true (.ref p) (upd F p (.tup vs)) _ hp (st.allocF hn) (Ex.new hF) (.tup (SqT.of upd_same) (dpa_mono (Ex.new hF) _ _ hd))
theorem put_new {p : Addr} {vs : List V} {ds : List PyData} {Φ : List PyData → Prop} {Q : VK} (st : St K g F H σ env) (hn : H p = none) (hd : DpAll K F vs ds) (hp : Φ ds)
    (hQ : ∀ ds v F' H', Φ ds → St K g F' H' σ env → Ex F F' → NewL K g F' H' env v ds → Q v H') : Q (.ref p) (upd H p (.lst vs)) :=
  hQ ds (.ref p) F _ hp (st.alloc hn) (Ex.refl F) ⟨p, vs, rfl, upd_same, hd, st.ex.none hn, st.toSk.notown hn, st.h0 hn⟩
theorem we_of_wn {Φ : PyData → Bool → Prop} (h : WN X g e env (fun ds => Φ (.list ds) true) Ψ) : WE X g e env Φ Ψ := fun W tk σ F H st hx Q hQ =>
  h W tk σ F H st hx Q fun ds v F' H' hp st' e' ⟨p, vs, hv, h1, h2, h3, h4, h5⟩ => by
    subst hv
    have e2 := Ex.new (o := .lst vs) h3
    exact hQ (.list ds) true (.ref p) (upd F' p (.lst vs)) H' hp (st'.freeze h1 h3 h4 h5) (e'.trans e2) (.lst (SqL.of upd_same) (dpa_mono e2 _ _ h2))

/-! ### constants and names -/
section
variable {Φ : PyData → Bool → Prop}
theorem we_int {i : Int} {j : Nat} (h : Φ (.int i) true) : WE X g (.Constant (.int i) j pos) env Φ Ψ :=
  fun W tk σ F H st hx Q hQ => semE_of pe_int (hQ _ true _ F H h st (Ex.refl F) (.int i))
theorem we_str {i : Str} {j : Nat} (h : Φ (.str i) true) : WE X g (.Constant (.str i) j pos) env Φ Ψ :=
  fun W tk σ F H st hx Q hQ => semE_of pe_str (hQ _ true _ F H h st (Ex.refl F) (.str i))
theorem we_bool {i : Bool} {j : Nat} (h : Φ (.bool i) true) : WE X g (.Constant (.bool i) j pos) env Φ Ψ :=
  fun W tk σ F H st hx Q hQ => semE_of pe_bl (hQ _ true _ F H h st (Ex.refl F) (.bl i))
theorem we_none {j : Nat} (h : Φ .none true) : WE X g (.Constant .none j pos) env Φ Ψ :=
  fun W tk σ F H st hx Q hQ => semE_of pe_non (hQ _ true _ F H h st (Ex.refl F) .non)
theorem getD_some {σ : SS} {i : Nat} {v : V} (h : σ[i]?.getD none = some v) : σ[i]? = some (some v) := by
  cases e : σ[i]? with
  | none => rw [e] at h; cases h
  | some o => rw [e] at h; exact congrArg some h
/-- a name that holds data -/
theorem we_n (i : Nat) {d : PyData} {x : Str} (h : Φ d true) (he : env[i]? = some (.d d) := by rfl) (hN : X.N[i]? = some x := by rfl)
    (hv : Vis X.env.scope x := by first | exact Or.inl rfl | exact Or.inr (Or.inl rfl) | exact Or.inr (Or.inr rfl)) (hd : (x == ("__debug__" : Str)) = false := by decide)
    (hcd : (x == ("__classdict__" : Str)) = false := by decide) : WE X g (.Name x pos) env Φ Ψ := fun W tk σ F H st hx Q hQ => by
  obtain ⟨v, h1, h2⟩ := st.sl i _ he
  exact semE_of (pe_var hN hv hd hcd) ⟨v, getD_some h1, hQ d true v F H h st (Ex.refl F) h2⟩
/-- a name that holds a list of one's own -/
theorem we_nl (i : Nat) {al : Addr} {ds : List PyData} {x : Str} (h : Φ (.list ds) false) (he : env[i]? = some (.ol al ds) := by rfl) (hN : X.N[i]? = some x := by rfl)
    (hv : Vis X.env.scope x := by first | exact Or.inl rfl | exact Or.inr (Or.inl rfl) | exact Or.inr (Or.inr rfl)) (hd : (x == ("__debug__" : Str)) = false := by decide)
    (hcd : (x == ("__classdict__" : Str)) = false := by decide) : WE X g (.Name x pos) env Φ Ψ := fun W tk σ F H st hx Q hQ => by
  obtain ⟨h1, h2⟩ := st.sl i _ he
  exact semE_of (pe_var hN hv hd hcd) ⟨_, getD_some h1, hQ _ false _ F H h st (Ex.refl F) ⟨al, ds, ⟨i, he⟩, rfl, rfl⟩⟩
/-- a module's int, a module's text -/
theorem we_gint {n : Int} {x : Str} (hm : ∃ t, X.mg x = some (.int n t)) (h : Φ (.int n) true) (hg : Gl X x := by rfl) (hd : (x == ("__debug__" : Str)) = false := by decide) : WE X g (.Name x pos) env Φ Ψ :=
  fun W tk σ F H st hx Q hQ => by
    obtain ⟨t, ht⟩ := hm
    exact semE_of (pe_glob hg ht (v := .int n) ⟨t, rfl⟩ hd) (hQ _ true _ F H h st (Ex.refl F) (.int n))
theorem we_gstr {n : Str} {x : Str} (hm : ∃ t, X.mg x = some (.str n t)) (h : Φ (.str n) true) (hg : Gl X x := by rfl) (hd : (x == ("__debug__" : Str)) = false := by decide) : WE X g (.Name x pos) env Φ Ψ :=
  fun W tk σ F H st hx Q hQ => by
    obtain ⟨t, ht⟩ := hm
    exact semE_of (pe_glob hg ht (v := .str n) ⟨t, rfl⟩ hd) (hQ _ true _ F H h st (Ex.refl F) (.str n))
end
end
end TL

namespace TL
open PySem PySem.Spec PyProof.Rows L2

section
variable {X : Cx} {g : G} {env : List Sl} {Ψ : Exc → Prop} {pos : Pos} {a b c e : Expr} {K : Frag} {F F' H : Hp} {σ : SS}

/-! ### list + list over any list that is read -/
def rCatL (K : Frag) : R2 := fun x y H Q => ∃ l b xs zs, x = .ref l ∧ y = .ref b ∧ SqL K H l xs ∧ SqL K H b zs ∧ xs.length + zs.length ≤ sizeLine ∧ ∀ p, H p = none → Q (.ref p) (upd H p (.lst (xs ++ zs)))
theorem op_catL : OpR X (binaryOp .Add) (rCatL X.K) := by
  intro pins s σ H x y v u Q I rx ry h
  obtain ⟨l, b, xs, zs, rfl, rfl, hH, hB, hz, q⟩ := h
  cases rx
  cases ry
  obtain ⟨vs, r, ⟨⟨cls, dd, data, sl⟩, n, ho, hc, hdn, hd⟩, hl⟩ := I.list hH
  obtain ⟨ws, r2, ⟨⟨cls2, dd2, data2, sl2⟩, n2, ho2, hc2, hdn2, hd2⟩, hl2⟩ := I.list hB
  simp only at hc hd hc2 hd2
  subst hc hd hc2 hd2
  have e1 := r.length
  have e2 := r2.length
  have e : vs.toArray ++ ws.toArray = (vs ++ ws).toArray := by simp
  refine concat_meets ⟨_, ho, rfl⟩ ⟨_, ho2, rfl⟩ noFill_list_add seq_list_add PySem.F.slot_list_add PySem.F.entry_list_add (PySem.F.args_list_add_2 _ _) (list_addW l b vs.toArray ws.toArray n n2 dd dd2 sl sl2 (by simp only [List.size_toArray]; omega)) ⟨ho, ho2, ?_⟩
  rw [e]
  exact ⟨.ref _, _, I.lnew (t' := s.toks) (r.append r2) (by rw [List.length_append]; omega), rfl, q _ I.fresh⟩

/-! ### arithmetic -/
theorem dop_I0 {f : Int → Int → V} {i j : Int} {z1 z2 : Bool} {Φ : PyData → Bool → Prop} {d : PyData} (h : Φ d true) (hf : ∀ F, Dp K F (f i j) d) : DOp K g env (rI0 f) (.int i) z1 (.int j) z2 Φ :=
  dop_of h fun σ F H v1 v2 Q st r1 r2 q => ⟨i, j, rd_int r1, rd_int r2, q _ (hf F)⟩
theorem dop_I {C : Int → Int → Prop} {f : Int → Int → V} {i j : Int} {z1 z2 : Bool} {Φ : PyData → Bool → Prop} {d : PyData} (hc : C i j) (h : Φ d true) (hf : ∀ F, Dp K F (f i j) d) : DOp K g env (rI C f) (.int i) z1 (.int j) z2 Φ :=
  dop_of h fun σ F H v1 v2 Q st r1 r2 q => ⟨i, j, rd_int r1, rd_int r2, hc, q _ (hf F)⟩
inductive AddP (Φ : PyData → Bool → Prop) : PyData → Bool → PyData → Bool → Prop
  | int {i j : Int} {z1 z2 : Bool} : Φ (.int (i + j)) true → AddP Φ (.int i) z1 (.int j) z2
  | str {i j : Str} {z1 z2 : Bool} : Φ (.str (i ++ j)) true → i.length + j.length ≤ sizeLine → AddP Φ (.str i) z1 (.str j) z2
  | lst {xs ys : List PyData} {z1 z2 : Bool} : Φ (.list (xs ++ ys)) true → xs.length + ys.length ≤ sizeLine → AddP Φ (.list xs) z1 (.list ys) z2
  | tup {xs ys : List PyData} {z1 z2 : Bool} : Φ (.tuple (xs ++ ys)) true → xs ≠ [] → xs.length + ys.length ≤ sizeLine → AddP Φ (.tuple xs) z1 (.tuple ys) z2
abbrev rAddS : R2 := fun x y H Q => ∃ i j, x = .str i ∧ y = .str j ∧ i.length + j.length ≤ sizeLine ∧ Q (.str (i ++ j)) H
abbrev rAddA (K : Frag) : R2 := fun x y H Q => (rI0 fun i j => .int (i + j)) x y H Q ∨ (fun x y H Q => rAddS x y H Q ∨ (fun x y H Q => rCatL K x y H Q ∨ rCatT K x y H Q) x y H Q) x y H Q
theorem op_addA : OpR X (binaryOp .Add) (rAddA X.K) := op_add.or (op_add_str.or (op_catL.or op_catT))
theorem dop_add {Φ : PyData → Bool → Prop} {d1 d2 : PyData} {z1 z2 : Bool} (h : AddP Φ d1 z1 d2 z2) : DOp K g env (rAddA K) d1 z1 d2 z2 Φ := by
  cases h with
  | int h => exact dop_l (dop_I0 h fun F => .int _)
  | str h hl => exact dop_r (dop_l (dop_of h fun σ F H v1 v2 Q st r1 r2 q => ⟨_, _, rd_str r1, rd_str r2, hl, q _ (.str _)⟩))
  | lst h hl =>
    refine dop_r (dop_r (dop_l fun σ F H v1 v2 st r1 r2 Q hQ => ?_))
    obtain ⟨a1, vs1, rfl, s1, p1⟩ := rd_lst st.toSk r1
    obtain ⟨a2, vs2, rfl, s2, p2⟩ := rd_lst st.toSk r2
    exact ⟨a1, a2, vs1, vs2, rfl, rfl, s1, s2, by rw [dpa_len p1, dpa_len p2]; exact hl, fun p hp => put_lst st hp (dpa_app p1 p2) h hQ⟩
  | tup h hne hl =>
    refine dop_r (dop_r (dop_r fun σ F H v1 v2 st r1 r2 Q hQ => ?_))
    obtain ⟨a1, vs1, rfl, s1, p1⟩ := rd_tup st.toSk r1
    obtain ⟨a2, vs2, rfl, s2, p2⟩ := rd_tup st.toSk r2
    have n1 : vs1 ≠ [] := fun z => by subst z; cases p1; exact hne rfl
    refine ⟨a1, a2, vs1, vs2, rfl, rfl, s1, s2, n1, by rw [dpa_len p1, dpa_len p2]; exact hl, fun e => ?_, fun _ p hp => put_tup st hp (dpa_app p1 p2) h hQ⟩
    subst e
    cases p2
    rw [List.append_nil] at h
    refine hQ _ z1 _ F H ?_ st (Ex.refl F) r1
    cases z1 with
    | true => exact h
    | false => obtain ⟨_, _, _, _, e⟩ := r1; cases e
section
variable {Φ : PyData → Bool → Prop}
theorem we_add (h : WE X g a env (fun d1 z1 => WE X g b env (fun d2 z2 => AddP Φ d1 z1 d2 z2) Ψ) Ψ) : WE X g (.BinOp a .Add b pos) env Φ Ψ :=
  we_op (pe_op op_addA (peS a) (peS b)) (fun _ _ _ _ => dop_add) h
inductive IntP (C : Int → Int → Prop) (f : Int → Int → Int) (Φ : PyData → Bool → Prop) : PyData → Bool → PyData → Bool → Prop
  | mk {i j : Int} {z1 z2 : Bool} : Φ (.int (f i j)) true → C i j → IntP C f Φ (.int i) z1 (.int j) z2
theorem we_sub (h : WE X g a env (fun d1 z1 => WE X g b env (fun d2 z2 => IntP (fun _ _ => True) (fun i j => i - j) Φ d1 z1 d2 z2) Ψ) Ψ) : WE X g (.BinOp a .Sub b pos) env Φ Ψ :=
  we_op (pe_op op_sub (peS a) (peS b)) (fun _ _ _ _ ⟨h, _⟩ => dop_I0 h fun F => .int _) h
theorem we_mul (h : WE X g a env (fun d1 z1 => WE X g b env (fun d2 z2 => IntP CMul (fun i j => i * j) Φ d1 z1 d2 z2) Ψ) Ψ) : WE X g (.BinOp a .Mult b pos) env Φ Ψ :=
  we_op (pe_op op_mul (peS a) (peS b)) (fun _ _ _ _ ⟨h, hc⟩ => dop_I hc h fun F => .int _) h
theorem we_mulW (h : WE X g a env (fun d1 z1 => WE X g b env (fun d2 z2 => IntP CMulW (fun i j => i * j) Φ d1 z1 d2 z2) Ψ) Ψ) : WE X g (.BinOp a .Mult b pos) env Φ Ψ :=
  we_op (pe_op op_mulW (peS a) (peS b)) (fun _ _ _ _ ⟨h, hc⟩ => dop_I hc h fun F => .int _) h
theorem we_div (h : WE X g a env (fun d1 z1 => WE X g b env (fun d2 z2 => IntP CDivW (fun i j => i / j) Φ d1 z1 d2 z2) Ψ) Ψ) : WE X g (.BinOp a .FloorDiv b pos) env Φ Ψ :=
  we_op (pe_op op_fdivW (peS a) (peS b)) (fun _ _ _ _ ⟨h, hc⟩ => dop_I hc h fun F => .int _) h
theorem we_mod (h : WE X g a env (fun d1 z1 => WE X g b env (fun d2 z2 => IntP (fun _ j => 0 < j) (fun i j => i % j) Φ d1 z1 d2 z2) Ψ) Ψ) : WE X g (.BinOp a .Mod b pos) env Φ Ψ :=
  we_op (pe_op op_mod (peS a) (peS b)) (fun _ _ _ _ ⟨h, hc⟩ => dop_I hc h fun F => .int _) h
theorem we_pow (h : WE X g a env (fun d1 z1 => WE X g b env (fun d2 z2 => IntP CPow (fun i j => i ^ j.toNat) Φ d1 z1 d2 z2) Ψ) Ψ) : WE X g (.BinOp a .Pow b pos) env Φ Ψ :=
  we_op (pe_op op_pow (peS a) (peS b)) (fun _ _ _ _ ⟨h, hc⟩ => dop_I hc h fun F => .int _) h
theorem cdiv_small {j : Int} (i : Int) (h : 0 < j) (h2 : j < 4611686018427387904) : CDivW i j := wide_div h (b := 62) (by omega) (by decide) (by decide)
theorem we_neg (h : WE X g a env (fun d1 z1 => ∃ i, d1 = .int i ∧ Φ (.int (-i)) true) Ψ) : WE X g (.UnaryOp .USub a pos) env Φ Ψ :=
  we_un1 (pe_un un_neg (peS a)) (fun d1 z1 ⟨i, hi, hp⟩ σ F H v1 st r1 Q hQ => ⟨i, by subst hi; exact rd_int r1, hQ _ true _ F H hp st (Ex.refl F) (.int _)⟩) h
end

/-! ### comparisons: k is the answer -/
def CP (K : Frag) (g : G) (env : List Sl) (r : R2) (d1 : PyData) (z1 : Bool) (d2 : PyData) (z2 : Bool) (k : Bool) : Prop :=
  ∀ (σ : SS) (F H : Hp) (v1 v2 : V), St K g F H σ env → Rd K F env z1 v1 d1 → Rd K F env z2 v2 d2 → ∀ Q : VK, Q (.bl k) H → r v1 v2 H Q
theorem cp_l {r r' : R2} {d1 d2 : PyData} {z1 z2 k : Bool} (h : CP K g env r d1 z1 d2 z2 k) : CP K g env (fun x y H Q => r x y H Q ∨ r' x y H Q) d1 z1 d2 z2 k := fun σ F H v1 v2 st r1 r2 Q q => .inl (h σ F H v1 v2 st r1 r2 Q q)
theorem cp_r {r r' : R2} {d1 d2 : PyData} {z1 z2 k : Bool} (h : CP K g env r' d1 z1 d2 z2 k) : CP K g env (fun x y H Q => r x y H Q ∨ r' x y H Q) d1 z1 d2 z2 k := fun σ F H v1 v2 st r1 r2 Q q => .inr (h σ F H v1 v2 st r1 r2 Q q)
theorem we_cp {Φ : PyData → Bool → Prop} {op : CmpOp} {r : R2} (ho : OpR X (compareOp op) r) (h : WE X g a env (fun d1 z1 => WE X g b env (fun d2 z2 => ∃ k, CP X.K g env r d1 z1 d2 z2 k ∧ Φ (.bool k) true) Ψ) Ψ)
    (hm : behindInMarks op b = false := by first | exact nomark _ | rfl) : WE X g (.Compare a [op] [b] pos) env Φ Ψ :=
  we_op (pe_cmpR ho (peS a) (peS b) hm) (fun _ _ _ _ ⟨k, hc, hp⟩ σ F H v1 v2 st r1 r2 Q hQ => hc σ F H v1 v2 st r1 r2 Q (hQ _ true _ F H hp st (Ex.refl F) (.bl k))) h
theorem wt_cp {Φ : Bool → Prop} {op : CmpOp} {r : R2} (ho : OpR X (compareOp op) r) (h : WE X g a env (fun d1 z1 => WE X g b env (fun d2 z2 => ∃ k, CP X.K g env r d1 z1 d2 z2 k ∧ Φ k) Ψ) Ψ)
    (hm : behindInMarks op b = false := by first | exact nomark _ | rfl) : WT X g (.Compare a [op] [b] pos) env Φ Ψ :=
  wt_op (pt_cmpR ho (peS a) (peS b) hm) (fun _ _ _ _ ⟨k, hc, hp⟩ σ F H v1 v2 st r1 r2 Q hQ => hc σ F H v1 v2 st r1 r2 Q (hQ (.bool k) true _ F H ⟨k, rfl, hp⟩ st (Ex.refl F) (.bl k))) h
/-- a op b op' c -/
theorem chain_run {r r' : R2} {C : Bool → Prop} (h : WE X g a env (fun d1 z1 => WE X g b env (fun d2 z2 => ∃ k, CP X.K g env r d1 z1 d2 z2 k ∧ (k = true → WE X g c env (fun d3 z3 => ∃ k', CP X.K g env r' d2 z2 d3 z3 k' ∧ C k') Ψ) ∧ (k = false → C false)) Ψ) Ψ)
    {W : WX} (tk : Takes X W) {F H : Hp} (st : St X.K g F H σ env) (hx : HX X g env Ψ W σ) {Q : VK} (hQ : ∀ k F' H', C k → St X.K g F' H' σ env → Ex F F' → Q (.bl k) H') : tChain r r' (semE X a) (semE X b) (semE X c) σ H Q := by
  refine h W tk σ F H st hx _ fun d1 z1 v1 F1 H1 h1 st1 e1 r1 => ?_
  refine h1 W tk σ F1 H1 st1 hx _ fun d2 z2 v2 F2 H2 h2 st2 e2 r2 => ?_
  obtain ⟨k, hc, ht, hf⟩ := h2
  refine hc σ F2 H2 v1 v2 st2 (rd_mono e2 r1) r2 _ ⟨k, rfl, ?_⟩
  cases k with
  | true =>
    rw [if_pos rfl]
    refine ht rfl W tk σ F2 H2 st2 hx _ fun d3 z3 v3 F3 H3 h3 st3 e3 r3 => ?_
    obtain ⟨k', hc', hp⟩ := h3
    exact hc' σ F3 H3 v2 v3 st3 (rd_mono e3 r2) r3 Q (hQ k' F3 H3 hp st3 ((e1.trans e2).trans e3))
  | false =>
    rw [if_neg Bool.false_ne_true]
    exact hQ false F2 H2 (hf rfl) st2 (e1.trans e2)
theorem we_ch {Φ : PyData → Bool → Prop} {op op' : CmpOp} {r r' : R2} (ho : OpR X (compareOp op) r) (ho' : OpR X (compareOp op') r')
    (h : WE X g a env (fun d1 z1 => WE X g b env (fun d2 z2 => ∃ k, CP X.K g env r d1 z1 d2 z2 k ∧ (k = true → WE X g c env (fun d3 z3 => ∃ k', CP X.K g env r' d2 z2 d3 z3 k' ∧ Φ (.bool k') true) Ψ) ∧ (k = false → Φ (.bool false) true)) Ψ) Ψ)
    (hm : lastMarks [op, op'] [b, c] = false := by with_unfolding_all rfl) : WE X g (.Compare a [op, op'] [b, c] pos) env Φ Ψ := fun W tk σ F H st hx Q hQ =>
  semE_of (pe_chain ho ho' (peS a) (peS b) (peS c) hm) (chain_run (C := fun k => Φ (.bool k) true) h tk st hx fun k F' H' hp s e => hQ _ true _ F' H' hp s e (.bl k))
theorem wt_ch {Φ : Bool → Prop} {op op' : CmpOp} {r r' : R2} (ho : OpR X (compareOp op) r) (ho' : OpR X (compareOp op') r')
    (h : WE X g a env (fun d1 z1 => WE X g b env (fun d2 z2 => ∃ k, CP X.K g env r d1 z1 d2 z2 k ∧ (k = true → WE X g c env (fun d3 z3 => ∃ k', CP X.K g env r' d2 z2 d3 z3 k' ∧ Φ k') Ψ) ∧ (k = false → Φ false)) Ψ) Ψ)
    (hm : lastMarks [op, op'] [b, c] = false := by with_unfolding_all rfl) : WT X g (.Compare a [op, op'] [b, c] pos) env Φ Ψ := fun W tk σ F H st hx Q hQ =>
  semT_of (pt_chain ho ho' (peS a) (peS b) (peS c) hm) (chain_run h tk st hx fun k F' H' hp s e => ⟨k, rfl, hQ k F' H' hp s e⟩)

/-- the operators' rules, by what they take -/
abbrev rLtA (K : Frag) : R2 := fun x y H Q => (rI0 fun i j => .bl (decide (i < j))) x y H Q ∨ rLtT K x y H Q
theorem op_ltA {k : Nat} (hr : Room k X.A) : OpR X (compareOp .Lt) (rLtA X.K) := op_lt.or (op_ltT hr.units0)
abbrev rEqA (K : Frag) : R2 := fun x y H Q => rEq x y H Q ∨ rEqD K x y H Q
theorem op_eqA {k : Nat} (hr : Room k X.A) : OpR X (compareOp .Eq) (rEqA X.K) := op_eq.or (op_eqD hr.units)
abbrev rNeA (K : Frag) : R2 := fun x y H Q => rNe x y H Q ∨ rNeD K x y H Q
theorem op_neA {k : Nat} (hr : Room k X.A) : OpR X (compareOp .NotEq) (rNeA X.K) := op_ne.or (op_neD hr.units)
theorem units65 {k : Nat} {A : Around} (hr : Room k A) : A.units + 65 < cLine := by have := hr.un; omega
abbrev rInS : R2 := fun x y H Q => ∃ i j, x = .str i ∧ y = .str j ∧ Q (.bl (!(Builtin.Str.occurrences j i 0 j.length 1).isEmpty)) H
abbrev rNotInS : R2 := fun x y H Q => ∃ i j, x = .str i ∧ y = .str j ∧ Q (.bl (!(!(Builtin.Str.occurrences j i 0 j.length 1).isEmpty))) H
abbrev rInA (K : Frag) : R2 := fun x y H Q => rIn K false x y H Q ∨ (fun x y H Q => rInD K x y H Q ∨ rInS x y H Q) x y H Q
abbrev rNotInA (K : Frag) : R2 := fun x y H Q => rIn K true x y H Q ∨ (fun x y H Q => rNotInD K x y H Q ∨ rNotInS x y H Q) x y H Q
theorem op_inA {k : Nat} (hr : Room k X.A) : OpR X (compareOp .In) (rInA X.K) := op_in_seq.or ((op_inD (units65 hr)).or op_in_str)
theorem op_notInA {k : Nat} (hr : Room k X.A) : OpR X (compareOp .NotIn) (rNotInA X.K) := op_notIn_seq.or ((op_notInD (units65 hr)).or op_notin_str)
abbrev rIsN : R2 := fun x y H Q => y = .non ∧ Q (.bl (decide (x = .non))) H
abbrev rNotN : R2 := fun x y H Q => y = .non ∧ Q (.bl (!decide (x = .non))) H

section
variable {z1 z2 : Bool} {i j : Int} {s t : Str} {d1 d2 : PyData}
theorem cp_I0 {f : Int → Int → Bool} : CP K g env (rI0 fun i j => .bl (f i j)) (.int i) z1 (.int j) z2 (f i j) := fun σ F H v1 v2 st r1 r2 Q q => ⟨i, j, rd_int r1, rd_int r2, q⟩
theorem cp_lt : CP K g env (rLtA K) (.int i) z1 (.int j) z2 (decide (i < j)) := cp_l cp_I0
theorem cp_ltT {ns ms : List Int} : CP K g env (rLtA K) (.tuple (ns.map .int)) z1 (.tuple (ms.map .int)) z2 (HT.lexLt ns ms) := cp_r fun σ F H v1 v2 st r1 r2 Q q => by
  obtain ⟨a1, vs1, rfl, s1, p1⟩ := rd_tup st.toSk r1
  obtain ⟨a2, vs2, rfl, s2, p2⟩ := rd_tup st.toSk r2
  rw [dpa_ints_eq p1] at s1
  rw [dpa_ints_eq p2] at s2
  exact ⟨a1, a2, ns, ms, rfl, rfl, s1, s2, q⟩
theorem cp_le : CP K g env (rI0 fun i j => .bl (decide (i ≤ j))) (.int i) z1 (.int j) z2 (decide (i ≤ j)) := cp_I0
theorem cp_gt : CP K g env (rI0 fun i j => .bl (decide (j < i))) (.int i) z1 (.int j) z2 (decide (j < i)) := cp_I0 (f := fun i j => decide (j < i))
theorem cp_ge : CP K g env (rI0 fun i j => .bl (decide (j ≤ i))) (.int i) z1 (.int j) z2 (decide (j ≤ i)) := cp_I0 (f := fun i j => decide (j ≤ i))
theorem vint_dec : decide (V.int i = V.int j) = decide (i = j) := by
  by_cases h : i = j
  · subst h; simp
  · rw [decide_eq_false h, decide_eq_false fun z => h (V.int.inj z)]
theorem vstr_dec : decide (V.str s = V.str t) = decide (s = t) := by
  by_cases h : s = t
  · subst h; simp
  · rw [decide_eq_false h, decide_eq_false fun z => h (V.str.inj z)]
theorem vbl_dec {k l : Bool} : decide (V.bl k = V.bl l) = decide (k = l) := by
  by_cases h : k = l
  · subst h; simp
  · rw [decide_eq_false h, decide_eq_false fun z => h (V.bl.inj z)]
theorem cp_eqI : CP K g env (rEqA K) (.int i) z1 (.int j) z2 (decide (i = j)) := cp_l fun σ F H v1 v2 st r1 r2 Q q => by
  rw [rd_int r1, rd_int r2]; exact ⟨rfl, by rw [vint_dec]; exact q⟩
theorem cp_eqS : CP K g env (rEqA K) (.str s) z1 (.str t) z2 (decide (s = t)) := cp_l fun σ F H v1 v2 st r1 r2 Q q => by
  rw [rd_str r1, rd_str r2]; exact ⟨rfl, by rw [vstr_dec]; exact q⟩
theorem cp_eqB {k l : Bool} : CP K g env (rEqA K) (.bool k) z1 (.bool l) z2 (decide (k = l)) := cp_l fun σ F H v1 v2 st r1 r2 Q q => by
  rw [rd_bl r1, rd_bl r2]; exact ⟨rfl, by rw [vbl_dec]; exact q⟩
theorem cp_eqD (h1 : SeqAt.shaped d1 = true) (h2 : SeqAt.shaped d2 = true) : CP K g env (rEqA K) d1 z1 d2 z2 (PyData.eqv d1 d2) := cp_r fun σ F H v1 v2 st r1 r2 Q q => ⟨d1, d2, rd_now st.toSk r1, rd_now st.toSk r2, h1, h2, q⟩
theorem cp_neI : CP K g env (rNeA K) (.int i) z1 (.int j) z2 (!decide (i = j)) := cp_l fun σ F H v1 v2 st r1 r2 Q q => by
  rw [rd_int r1, rd_int r2]; exact ⟨rfl, by rw [vint_dec]; exact q⟩
theorem cp_neS : CP K g env (rNeA K) (.str s) z1 (.str t) z2 (!decide (s = t)) := cp_l fun σ F H v1 v2 st r1 r2 Q q => by
  rw [rd_str r1, rd_str r2]; exact ⟨rfl, by rw [vstr_dec]; exact q⟩
theorem cp_neB {k l : Bool} : CP K g env (rNeA K) (.bool k) z1 (.bool l) z2 (!decide (k = l)) := cp_l fun σ F H v1 v2 st r1 r2 Q q => by
  rw [rd_bl r1, rd_bl r2]; exact ⟨rfl, by rw [vbl_dec]; exact q⟩
theorem cp_neD (h1 : SeqAt.shaped d1 = true) (h2 : SeqAt.shaped d2 = true) : CP K g env (rNeA K) d1 z1 d2 z2 (!PyData.eqv d1 d2) := cp_r fun σ F H v1 v2 st r1 r2 Q q => ⟨d1, d2, rd_now st.toSk r1, rd_now st.toSk r2, h1, h2, q⟩
/-- x is None -/
def isNone : PyData → Bool
  | .none => true
  | _ => false
theorem dp_isnone {v : V} {d : PyData} (h : Dp K H v d) : decide (v = .non) = isNone d := by
  cases h <;> first | rfl | exact decide_eq_false (fun z => by cases z)
theorem cp_isN : CP K g env rIsN d1 z1 .none z2 (isNone d1) := fun σ F H v1 v2 st r1 r2 Q q => ⟨rd_non r2, by rw [dp_isnone (rd_now st.toSk r1)]; exact q⟩
theorem cp_notN : CP K g env rNotN d1 z1 .none z2 (!isNone d1) := fun σ F H v1 v2 st r1 r2 Q q => ⟨rd_non r2, by rw [dp_isnone (rd_now st.toSk r1)]; exact q⟩
/-- flat things in a list or tuple -/
def fl : PyData → Option V
  | .int i => some (.int i)
  | .str s => some (.str s)
  | .none => some .non
  | _ => none
theorem fl_dp {v x : V} {d : PyData} (h : Dp K H v d) (e : fl d = some x) : v = x := by
  cases h <;> first | exact Option.some.inj e | cases e
theorem fl_flat {x : V} {d : PyData} (e : fl d = some x) : flatV x = true := by
  cases d <;> first | (have e' := Option.some.inj e; subst e'; rfl) | cases e
theorem eqV_int : eqV (.int i) (.int j) = decide (i = j) := by
  show (i == j) = _
  rw [Bool.beq_eq_decide_eq]
theorem dpa_all {vs : List V} : ∀ {ds : List PyData} {vs : List V}, DpAll K H vs ds → (∀ d ∈ ds, ∃ x, fl d = some x) → vs.all flatV = true
  | [], _, h, _ => by cases h; rfl
  | d :: ds, _, h, hf => by
    cases h with
    | cons h1 h2 =>
      obtain ⟨x, hx⟩ := hf d (List.mem_cons_self ..)
      rw [List.all_cons, fl_dp h1 hx, fl_flat hx, dpa_all (vs := []) h2 fun d hd => hf d (List.mem_cons_of_mem _ hd)]
      rfl
/-- an int in a list of ints -/
theorem inV_ints : ∀ (ns : List Int) (i : Int), inV (.int i) (ns.map V.int) = decide (i ∈ ns)
  | [], i => rfl
  | n :: ns, i => by
    have ih := inV_ints ns i
    show (eqV (.int n) (.int i) || inV (.int i) (ns.map V.int)) = _
    rw [ih, eqV_int]
    by_cases h : i = n
    · subst h; simp
    · simp [h, Ne.symm h]
theorem flat_ints (ns : List Int) : (ns.map V.int).all flatV = true := by
  rw [List.all_eq_true]
  intro x hx
  obtain ⟨n, _, rfl⟩ := List.mem_map.mp hx
  rfl
theorem cp_inI {ns : List Int} : CP K g env (rInA K) (.int i) z1 (.list (ns.map .int)) z2 (decide (i ∈ ns)) := cp_l fun σ F H v1 v2 st r1 r2 Q q => by
  obtain ⟨a2, vs2, rfl, s2, p2⟩ := rd_lst st.toSk r2
  rw [dpa_ints_eq p2] at s2
  rw [rd_int r1]
  refine ⟨a2, _, rfl, .inl s2, rfl, flat_ints ns, ?_⟩
  rw [if_neg Bool.false_ne_true, inV_ints]; exact q
theorem cp_notInI {ns : List Int} : CP K g env (rNotInA K) (.int i) z1 (.list (ns.map .int)) z2 (!decide (i ∈ ns)) := cp_l fun σ F H v1 v2 st r1 r2 Q q => by
  obtain ⟨a2, vs2, rfl, s2, p2⟩ := rd_lst st.toSk r2
  rw [dpa_ints_eq p2] at s2
  rw [rd_int r1]
  refine ⟨a2, _, rfl, .inl s2, rfl, flat_ints ns, ?_⟩
  rw [if_pos rfl, inV_ints]; exact q
theorem cp_inTI {ns : List Int} : CP K g env (rInA K) (.int i) z1 (.tuple (ns.map .int)) z2 (decide (i ∈ ns)) := cp_l fun σ F H v1 v2 st r1 r2 Q q => by
  obtain ⟨a2, vs2, rfl, s2, p2⟩ := rd_tup st.toSk r2
  rw [dpa_ints_eq p2] at s2
  rw [rd_int r1]
  refine ⟨a2, _, rfl, .inr s2, rfl, flat_ints ns, ?_⟩
  rw [if_neg Bool.false_ne_true, inV_ints]; exact q
/-- texts in a tuple, a list of texts -/
theorem eqV_str : eqV (.str s) (.str t) = decide (s = t) := by
  show (s == t) = _
  rw [Bool.beq_eq_decide_eq]
theorem inV_strs : ∀ (ns : List Str) (i : Str), inV (.str i) (ns.map V.str) = decide (i ∈ ns)
  | [], i => rfl
  | n :: ns, i => by
    have ih := inV_strs ns i
    show (eqV (.str n) (.str i) || inV (.str i) (ns.map V.str)) = _
    rw [ih, eqV_str]
    by_cases h : i = n
    · subst h; simp
    · simp [h, Ne.symm h]
theorem flat_strs (ns : List Str) : (ns.map V.str).all flatV = true := by
  rw [List.all_eq_true]
  intro x hx
  obtain ⟨n, _, rfl⟩ := List.mem_map.mp hx
  rfl
theorem dpa_strs_eq : ∀ {ns : List Str} {vs : List V}, DpAll K H vs (ns.map PyData.str) → vs = ns.map V.str
  | [], _, h => by
    have h' : DpAll K H _ [] := h
    cases h'; rfl
  | n :: ns, _, h => by
    have h' : DpAll K H _ (.str n :: ns.map PyData.str) := h
    cases h' with
    | cons h1 h2 => rw [dp_str h1, dpa_strs_eq h2]; rfl
theorem cp_inTS (ns : List Str) : CP K g env (rInA K) (.str s) z1 (.tuple (ns.map .str)) z2 (decide (s ∈ ns)) := cp_l fun σ F H v1 v2 st r1 r2 Q q => by
  obtain ⟨a2, vs2, rfl, s2, p2⟩ := rd_tup st.toSk r2
  rw [dpa_strs_eq p2] at s2
  rw [rd_str r1]
  refine ⟨a2, _, rfl, .inr s2, rfl, flat_strs ns, ?_⟩
  rw [if_neg Bool.false_ne_true, inV_strs]; exact q
theorem cp_notInTS (ns : List Str) : CP K g env (rNotInA K) (.str s) z1 (.tuple (ns.map .str)) z2 (!decide (s ∈ ns)) := cp_l fun σ F H v1 v2 st r1 r2 Q q => by
  obtain ⟨a2, vs2, rfl, s2, p2⟩ := rd_tup st.toSk r2
  rw [dpa_strs_eq p2] at s2
  rw [rd_str r1]
  refine ⟨a2, _, rfl, .inr s2, rfl, flat_strs ns, ?_⟩
  rw [if_pos rfl, inV_strs]; exact q
/-- data in a list -/
theorem cp_inD {ds : List PyData} (h1 : SeqAt.shaped d1 = true) (h2 : SeqAt.shaped (.list ds) = true) : CP K g env (rInA K) d1 z1 (.list ds) z2 (ds.any fun z => PyData.eqv z d1) :=
  cp_r (cp_l fun σ F H v1 v2 st r1 r2 Q q => ⟨d1, ds, rd_now st.toSk r1, rd_now st.toSk r2, h1, h2, q⟩)
theorem cp_notInD {ds : List PyData} (h1 : SeqAt.shaped d1 = true) (h2 : SeqAt.shaped (.list ds) = true) : CP K g env (rNotInA K) d1 z1 (.list ds) z2 (!ds.any fun z => PyData.eqv z d1) :=
  cp_r (cp_l fun σ F H v1 v2 st r1 r2 Q q => ⟨d1, ds, rd_now st.toSk r1, rd_now st.toSk r2, h1, h2, q⟩)
theorem cp_inS : CP K g env (rInA K) (.str s) z1 (.str t) z2 (!(Builtin.Str.occurrences t s 0 t.length 1).isEmpty) := cp_r (cp_r fun σ F H v1 v2 st r1 r2 Q q => ⟨s, t, rd_str r1, rd_str r2, q⟩)
theorem cp_notInS : CP K g env (rNotInA K) (.str s) z1 (.str t) z2 (!(!(Builtin.Str.occurrences t s 0 t.length 1).isEmpty)) := cp_r (cp_r fun σ F H v1 v2 st r1 r2 Q q => ⟨s, t, rd_str r1, rd_str r2, q⟩)
end

/-! ### tests, and, or, not, conditional expressions -/
section
variable {Φ : Bool → Prop}
theorem WT.mono {Φ' : Bool → Prop} (h : WT X g e env Φ Ψ) (k : ∀ d, Φ d → Φ' d) : WT X g e env Φ' Ψ :=
  fun W tk σ F H st hx Q hQ => h W tk σ F H st hx Q fun d F' H' p => hQ d F' H' (k d p)
theorem wt_e (h : WE X g e env (fun d _ => ∃ k, d = .bool k ∧ Φ k) Ψ) (he : ∀ whole, isTrue e X.env whole = (do let v ← whole; standAt e.pos; holding [v] (truthy v)) := by intro _; rfl) : WT X g e env Φ Ψ := fun W tk σ F H st hx Q hQ => by
  refine semT_of (pt_val (peS e) he) ?_
  refine h W tk σ F H st hx _ fun d z v F' H' ⟨k, hd, hp⟩ s' e' r' => ?_
  subst hd
  exact ⟨k, rd_bl r', hQ k F' H' hp s' e'⟩
theorem wt_not (h : WT X g a env (fun k => Φ (!k)) Ψ) : WT X g (.UnaryOp .Not a pos) env Φ Ψ := fun W tk σ F H st hx Q hQ =>
  semT_of (pt_not (ptS a)) (h W tk σ F H st hx _ fun k F' H' hp s' e' => hQ _ F' H' hp s' e')
theorem we_not {Φ : PyData → Bool → Prop} (h : WE X g a env (fun d _ => ∃ k, d = .bool k ∧ Φ (.bool !k) true) Ψ) : WE X g (.UnaryOp .Not a pos) env Φ Ψ := fun W tk σ F H st hx Q hQ =>
  semE_of (pe_not (peS a)) (h W tk σ F H st hx _ fun d z v F' H' ⟨k, hd, hp⟩ s' e' r' => by
    subst hd
    exact ⟨k, rd_bl r', hQ _ true _ F' H' hp s' e' (.bl _)⟩)
theorem pwS (e : Expr) (t : TT) (h : ∀ {σ H Q}, t σ H Q → ∀ (whole : Sem Value) (pins : List (Addr × Obj)) (s : Shared), Inv X pins σ H s → wpAny (model X.prog X.w) X.A (isTrue e X.env whole) (TP X pins σ Q) X.xe s) : PW X e t := ⟨fun whole pins s σ H Q I q => h q whole pins s I⟩
/-- semantic reading of an and/or whatever its whole is -/
structure SemW (X : Cx) (e : Expr) (σ : SS) (H : Hp) (Q : Bool → Hp → Prop) : Prop where
  run : ∀ (whole : Sem Value) (pins : List (Addr × Obj)) (s : Shared), Inv X pins σ H s → wpAny (model X.prog X.w) X.A (isTrue e X.env whole) (TP X pins σ Q) X.xe s
def semW (X : Cx) (e : Expr) : TT := fun σ H Q => SemW X e σ H Q
theorem pwW (e : Expr) : PW X e (semW X e) := ⟨fun whole pins s σ H Q I q => q.run whole pins s I⟩
theorem semW_of {e : Expr} {t : TT} (h : PW X e t) {σ : SS} {H : Hp} {Q : Bool → Hp → Prop} (q : t σ H Q) : semW X e σ H Q := ⟨fun whole pins s I => h.run whole pins s σ H Q I q⟩
/-- a test, whatever its whole is -/
def WW (X : Cx) (g : G) (e : Expr) (env : List Sl) (Φ : Bool → Prop) (Ψ : Exc → Prop) : Prop :=
  ∀ (W : WX), Takes X W → ∀ (σ : SS) (F H : Hp), St X.K g F H σ env → HX X g env Ψ W σ →
    ∀ Q : Bool → Hp → Prop, (∀ b F' H', Φ b → St X.K g F' H' σ env → Ex F F' → Q b H') → semW X e σ H Q
theorem wt_ww (h : WW X g e env Φ Ψ) : WT X g e env Φ Ψ := fun W tk σ F H st hx Q hQ => semT_of (pwW e).pt (h W tk σ F H st hx Q hQ)
theorem ww_and {rest : List Expr} (h : WT X g a env (fun k => (k = true → WW X g (.BoolOp .And (b :: rest) pos) env Φ Ψ) ∧ (k = false → Φ false)) Ψ) : WW X g (.BoolOp .And (a :: b :: rest) pos) env Φ Ψ := fun W tk σ F H st hx Q hQ => by
  refine semW_of (pw_and (ptS a) (pwW _)) ?_
  refine h W tk σ F H st hx _ fun k F' H' ⟨ht, hf⟩ s' e' => ?_
  cases k with
  | true => rw [if_pos rfl]; exact ht rfl W tk σ F' H' s' hx Q fun k F2 H2 hp s2 e2 => hQ k F2 H2 hp s2 (e'.trans e2)
  | false => rw [if_neg Bool.false_ne_true]; exact hQ false F' H' (hf rfl) s' e'
theorem ww_or {rest : List Expr} (h : WT X g a env (fun k => (k = true → Φ true) ∧ (k = false → WW X g (.BoolOp .Or (b :: rest) pos) env Φ Ψ)) Ψ) : WW X g (.BoolOp .Or (a :: b :: rest) pos) env Φ Ψ := fun W tk σ F H st hx Q hQ => by
  refine semW_of (pw_or (ptS a) (pwW _)) ?_
  refine h W tk σ F H st hx _ fun k F' H' ⟨ht, hf⟩ s' e' => ?_
  cases k with
  | true => rw [if_pos rfl]; exact hQ true F' H' (ht rfl) s' e'
  | false => rw [if_neg Bool.false_ne_true]; exact hf rfl W tk σ F' H' s' hx Q fun k F2 H2 hp s2 e2 => hQ k F2 H2 hp s2 (e'.trans e2)
theorem ww_and1 (h : WT X g a env Φ Ψ) : WW X g (.BoolOp .And [a] pos) env Φ Ψ := fun W tk σ F H st hx Q hQ => semW_of (pw_and1 (ptS a)) (h W tk σ F H st hx Q hQ)
theorem ww_or1 (h : WT X g a env Φ Ψ) : WW X g (.BoolOp .Or [a] pos) env Φ Ψ := fun W tk σ F H st hx Q hQ => semW_of (pw_or1 (ptS a)) (h W tk σ F H st hx Q hQ)
end
section
variable {Φ : PyData → Bool → Prop}
/-- as values (truths) -/
theorem we_one {op : BoolOp} (h : WE X g a env Φ Ψ) : WE X g (.BoolOp op [a] pos) env Φ Ψ := fun W tk σ F H st hx Q hQ => semE_of (pe_one (peS a)) (h W tk σ F H st hx Q hQ)
theorem we_and {rest : List Expr} (h : WE X g a env (fun d _ => ∃ k, d = .bool k ∧ (k = true → WE X g (.BoolOp .And (b :: rest) pos) env Φ Ψ) ∧ (k = false → Φ (.bool false) true)) Ψ) : WE X g (.BoolOp .And (a :: b :: rest) pos) env Φ Ψ := fun W tk σ F H st hx Q hQ => by
  refine semE_of (pe_and (peS a) (peS _)) ?_
  refine h W tk σ F H st hx _ fun d z v F' H' ⟨k, hd, ht, hf⟩ s' e' r' => ?_
  subst hd
  refine ⟨k, rd_bl r', ?_⟩
  cases k with
  | true => rw [if_pos rfl]; exact ht rfl W tk σ F' H' s' hx Q fun d z v F2 H2 hp s2 e2 => hQ d z v F2 H2 hp s2 (e'.trans e2)
  | false => rw [if_neg Bool.false_ne_true]; exact hQ _ true _ F' H' (hf rfl) s' e' (.bl false)
theorem we_or {rest : List Expr} (h : WE X g a env (fun d _ => ∃ k, d = .bool k ∧ (k = true → Φ (.bool true) true) ∧ (k = false → WE X g (.BoolOp .Or (b :: rest) pos) env Φ Ψ)) Ψ) : WE X g (.BoolOp .Or (a :: b :: rest) pos) env Φ Ψ := fun W tk σ F H st hx Q hQ => by
  refine semE_of (pe_or (peS a) (peS _)) ?_
  refine h W tk σ F H st hx _ fun d z v F' H' ⟨k, hd, ht, hf⟩ s' e' r' => ?_
  subst hd
  refine ⟨k, rd_bl r', ?_⟩
  cases k with
  | true => rw [if_pos rfl]; exact hQ _ true _ F' H' (ht rfl) s' e' (.bl true)
  | false => rw [if_neg Bool.false_ne_true]; exact hf rfl W tk σ F' H' s' hx Q fun d z v F2 H2 hp s2 e2 => hQ d z v F2 H2 hp s2 (e'.trans e2)
theorem we_if (h : WT X g c env (fun k => (k = true → WE X g a env Φ Ψ) ∧ (k = false → WE X g b env Φ Ψ)) Ψ) : WE X g (.IfExp c a b pos) env Φ Ψ := fun W tk σ F H st hx Q hQ => by
  refine semE_of (pe_ifExp (ptS c) (peS a) (peS b)) ?_
  refine h W tk σ F H st hx _ fun k F' H' ⟨ht, hf⟩ s' e' => ?_
  cases k with
  | true => rw [if_pos rfl]; exact ht rfl W tk σ F' H' s' hx Q fun d z v F2 H2 hp s2 e2 => hQ d z v F2 H2 hp s2 (e'.trans e2)
  | false => rw [if_neg Bool.false_ne_true]; exact hf rfl W tk σ F' H' s' hx Q fun d z v F2 H2 hp s2 e2 => hQ d z v F2 H2 hp s2 (e'.trans e2)
end

/-! ### subscripts -/
inductive IxP (Φ : PyData → Bool → Prop) : PyData → Bool → PyData → Bool → Prop
  | lst {xs : List PyData} {i : Int} {x : PyData} {z1 z2 : Bool} : Φ x true → atI xs i = some x → IxP Φ (.list xs) z1 (.int i) z2
  | tup {xs : List PyData} {i : Int} {x : PyData} {z1 z2 : Bool} : Φ x true → atI xs i = some x → IxP Φ (.tuple xs) z1 (.int i) z2
  | str {s : Str} {i : Int} {c : Nat} {z1 z2 : Bool} : Φ (.str ⟨#[c]⟩) true → s.length ≤ sizeLine → atI s.cps.toList i = some c → IxP Φ (.str s) z1 (.int i) z2
theorem dpa_at {ds : List PyData} {vs : List V} {i : Int} {d : PyData} (h : DpAll K H vs ds) (e : atI ds i = some d) : ∃ v, atI vs i = some v ∧ Dp K H v d := by
  unfold atI at e ⊢
  rw [dpa_len h]
  cases q : ixN ds.length i with
  | none => rw [q] at e; cases e
  | some j =>
    rw [q] at e
    obtain ⟨v, h1, h2⟩ := dpa_get h (show ds[j]? = some d from e)
    exact ⟨v, h1, h2⟩
theorem dop_ix {Φ : PyData → Bool → Prop} {d1 d2 : PyData} {z1 z2 : Bool} (h : IxP Φ d1 z1 d2 z2) : DOp K g env (rIx K) d1 z1 d2 z2 Φ := by
  cases h with
  | lst hp ha =>
    refine dop_l fun σ F H v1 v2 st r1 r2 Q hQ => ?_
    obtain ⟨a1, vs1, rfl, s1, p1⟩ := rd_lst st.toSk r1
    obtain ⟨v, e1, e2⟩ := dpa_at p1 ha
    exact ⟨a1, vs1, _, v, rfl, rd_int r2, s1, e1, hQ _ true _ F H hp st (Ex.refl F) e2⟩
  | tup hp ha =>
    refine dop_r (dop_l fun σ F H v1 v2 st r1 r2 Q hQ => ?_)
    obtain ⟨a1, vs1, rfl, s1, p1⟩ := rd_tup st.toSk r1
    obtain ⟨v, e1, e2⟩ := dpa_at p1 ha
    exact ⟨a1, vs1, _, v, rfl, rd_int r2, s1, e1, hQ _ true _ F H hp st (Ex.refl F) e2⟩
  | str hp hl ha => exact dop_r (dop_r fun σ F H v1 v2 st r1 r2 Q hQ => ⟨_, _, _, rd_str r1, rd_int r2, hl, ha, hQ _ true _ F H hp st (Ex.refl F) (.str _)⟩)
theorem we_ix {Φ : PyData → Bool → Prop} (h : WE X g a env (fun d1 z1 => WE X g b env (fun d2 z2 => IxP Φ d1 z1 d2 z2) Ψ) Ψ) (hs : PlainIx b := by exact fun _ _ => rfl) : WE X g (.Subscript a b pos) env Φ Ψ :=
  we_op (pe_ix ix_seq (peS a) (peS b) hs) (fun _ _ _ _ => dop_ix) h
end
end TL

namespace TL
open PySem PySem.Spec PyProof.Rows L2

/-! ### contracts -/
inductive PR where
  | rd (d : PyData)
  | nl (ds : List PyData)
  | ar (i : Nat)
abbrev CT := List Sl → (PR → List Sl → Prop) → (Exc → List Sl → Prop) → Prop
def Step (F H : Hp) (args : List Sl) (F' H' : Hp) : Prop :=
  Ex F F' ∧ (∀ a o, H a = some o → ¬ Own args a → H' a = some o) ∧ (∀ a, F' a ≠ none → F a ≠ none ∨ H a = none) ∧ ∀ a, H a ≠ none → H' a ≠ none
def PrOk (K : Frag) (vs : List V) (H F' H' : Hp) (args' : List Sl) (v : V) : PR → Prop
  | .rd d => Dp K F' v d
  | .nl ds => ∃ p xs, v = .ref p ∧ H' p = some (.lst xs) ∧ DpAll K F' xs ds ∧ F' p = none ∧ H p = none ∧ ¬ Own args' p
  | .ar i => vs[i]? = some v
def ExcE (K : Frag) (E : XK) (H : Hp) : Exc → Prop
  | .own n => E (.ref (He.ga K n)) none H
def spOf (K : Frag) (n : Nat) (S : CT) : Sp := fun vs H Q E => vs.length = n ∧ ∃ F args Φ Ψ, S args Φ Ψ ∧ Sk K F H (vs.map some) args ∧
  (∀ r v args' F' H', Φ r args' → Sk K F' H' (vs.map some) args' → Step F H args F' H' → (∀ a, Own args' a → Own args a) → PrOk K vs H F' H' args' v r → Q v H') ∧
  (∀ c args' F' H', Ψ c args' → Sk K F' H' (vs.map some) args' → Step F H args F' H' → (∀ a, Own args' a → Own args a) → ExcE K E H' c)
structure Has (P : Program) (w : World) (K : Frag) (mg : Str → Option Value) (base : Heap) (k : Nat) (x : Str) (ps : List Str) (S : CT) : Prop where
  ex : ∃ f fd, mg x = some (.ref f) ∧ PySem.W.keepIn K (.ref f) = true ∧ Binds K fd ps [] ∧ FnOk P w K mg base (L2.CX P w) k f fd ps (spOf K ps.length S)

/-! ### arguments -/
structure SemA (X : Cx) (es : List Expr) (σ : SS) (H : Hp) (Q : List V → Hp → Prop) : Prop where
  run : ∀ (pos : Pos) (pins : List (Addr × Obj)) (s : Shared), Inv X pins σ H s → wpAny (model X.prog X.w) X.A (spliced (backTo pos (starEach es X.env))) (AP X pins σ Q) X.xe s
def semA (X : Cx) (es : List Expr) : TA := fun σ H Q => SemA X es σ H Q
theorem paS {X : Cx} (es : List Expr) : PA X es (semA X es) := ⟨fun pos pins s σ H Q I h => h.run pos pins s I⟩
theorem semA_of {X : Cx} {es : List Expr} {t : TA} (h : PA X es t) {σ : SS} {H : Hp} {Q : List V → Hp → Prop} (q : t σ H Q) : semA X es σ H Q := ⟨fun pos pins s I => h.run pos pins s σ H Q I q⟩
def WAs (X : Cx) (g : G) (es : List Expr) (env : List Sl) (Φ : List Ar → Prop) (Ψ : Exc → Prop) : Prop :=
  ∀ (W : WX), Takes X W → ∀ (σ : SS) (F H : Hp), St X.K g F H σ env → HX X g env Ψ W σ →
    ∀ Q : List V → Hp → Prop, (∀ as vs F' H', Φ as → St X.K g F' H' σ env → Ex F F' → ArAll X.K F' σ vs as → Q vs H') → semA X es σ H Q
section
variable {X : Cx} {g : G} {env : List Sl} {Ψ : Exc → Prop} {pos p : Pos} {a b c e : Expr} {es : List Expr} {K : Frag} {F F' H H' : Hp} {σ : SS}
theorem arall_mono (e : Ex F F') : ∀ {vs : List V} {as : List Ar}, ArAll K F σ vs as → ArAll K F' σ vs as
  | [], [], _ => trivial
  | _ :: _, .d x :: _, ⟨h1, h2⟩ => ⟨dp_mono e _ _ h1, arall_mono e h2⟩
  | _ :: _, .s i :: _, ⟨h1, h2⟩ => ⟨h1, arall_mono e h2⟩
section
variable {Φ : List Ar → Prop}
theorem wa_nil (h : Φ []) : WAs X g [] env Φ Ψ := fun W tk σ F H st hx Q hQ => semA_of pa_nil (hQ [] [] F H h st (Ex.refl F) trivial)
/-- an argument that is data -/
theorem wa_d (he : WE X g e env (fun d z => z = true ∧ WAs X g es env (fun as => Φ (.d d :: as)) Ψ) Ψ) (hs : starEach (e :: es) X.env = (false, eval e X.env) :: starEach es X.env := by rfl) : WAs X g (e :: es) env Φ Ψ := fun W tk σ F H st hx Q hQ => by
  refine semA_of (pa_cons (peS e) (paS es) hs) ?_
  refine he W tk σ F H st hx _ fun d z v F1 H1 ⟨hz, hp⟩ s1 e1 r1 => ?_
  subst hz
  exact hp W tk σ F1 H1 s1 hx _ fun as vs F2 H2 hp2 s2 e2 r2 => hQ (.d d :: as) (v :: vs) F2 H2 hp2 s2 (e1.trans e2) ⟨dp_mono e2 _ _ r1, r2⟩
/-- an object that a slot holds -/
theorem wa_s (i : Nat) {x : Str} {s : Sl} (h : WAs X g es env (fun as => Φ (.s i :: as)) Ψ) (he : env[i]? = some s := by rfl) (hne : s.fp ≠ [] := by (intro h; cases h)) (hN : X.N[i]? = some x := by rfl)
    (hv : Vis X.env.scope x := by first | exact Or.inl rfl | exact Or.inr (Or.inl rfl) | exact Or.inr (Or.inr rfl)) (hd : (x == ("__debug__" : Str)) = false := by decide)
    (hcd : (x == ("__classdict__" : Str)) = false := by decide) (hs : starEach ((.Name x pos) :: es) X.env = (false, eval (.Name x pos) X.env) :: starEach es X.env := by rfl) : WAs X g (.Name x pos :: es) env Φ Ψ := fun W tk σ F H st hx Q hQ => by
  refine semA_of (pa_cons (pe_var hN hv hd hcd) (paS es) hs) ?_
  have q := st.sl i s he
  obtain ⟨v, hv⟩ : ∃ v, σ[i]?.getD none = some v := by
    cases s with
    | un => exact absurd rfl hne
    | d x => exact absurd rfl hne
    | v x => exact ⟨_, q⟩
    | ol a ds => exact ⟨_, q.1⟩
    | bg a => exact ⟨_, q.1⟩
    | dt a ds => exact ⟨_, q.1⟩
    | dk a ds => exact ⟨_, q.1⟩
  exact ⟨v, getD_some hv, h W tk σ F H st hx _ fun as vs F2 H2 hp2 s2 e2 r2 => hQ (.s i :: as) (v :: vs) F2 H2 hp2 s2 e2 ⟨getD_some hv, r2⟩⟩
end

/-! ### displays -/
def datas : List Ar → Option (List PyData)
  | [] => some []
  | .d x :: r => (datas r).map (x :: ·)
  | .s _ :: _ => none
theorem dpa_datas : ∀ {as : List Ar} {ds : List PyData} {vs : List V}, datas as = some ds → ArAll K F σ vs as → DpAll K F vs ds
  | [], _, [], h, _ => by cases h; exact .nil
  | .d x :: r, _, _ :: _, h, ⟨h1, h2⟩ => by
    obtain ⟨ds, e1, e2⟩ := Option.map_eq_some_iff.mp (show (datas r).map (x :: ·) = some _ from h)
    subst e2
    exact .cons h1 (dpa_datas e1 h2)
  | .s _ :: _, _, _, h, _ => by cases h
theorem wn_list {Φ : List PyData → Prop} (h : WAs X g es env (fun as => ∃ ds, datas as = some ds ∧ ds.length ≤ sizeLine ∧ Φ ds) Ψ) : WN X g (.List es pos) env Φ Ψ := fun W tk σ F H st hx Q hQ => by
  refine semE_of (pe_lst (paS es)) ?_
  refine h W tk σ F H st hx _ fun as vs F1 H1 ⟨ds, e1, hl, hp⟩ s1 ex1 r1 => ?_
  have hd := dpa_datas e1 r1
  refine ⟨by rw [dpa_len hd]; exact hl, fun p hn => ?_⟩
  exact put_new s1 hn hd hp fun ds v F' H' hp s e r => hQ ds v F' H' hp s (ex1.trans e) r
theorem we_list {Φ : PyData → Bool → Prop} (h : WAs X g es env (fun as => ∃ ds, datas as = some ds ∧ ds.length ≤ sizeLine ∧ Φ (.list ds) true) Ψ) : WE X g (.List es pos) env Φ Ψ := we_of_wn (wn_list h)
theorem we_tuple {x1 : Nat} {Φ : PyData → Bool → Prop} (h : WAs X g es env (fun as => ∃ ds, datas as = some ds ∧ ds.length ≤ sizeLine ∧ Φ (.tuple ds) true) Ψ) : WE X g (.Tuple es x1 pos) env Φ Ψ := fun W tk σ F H st hx Q hQ => by
  refine semE_of (pe_tup (paS es)) ?_
  refine h W tk σ F H st hx _ fun as vs F1 H1 ⟨ds, e1, hl, hp⟩ s1 ex1 r1 => ?_
  have hd := dpa_datas e1 r1
  refine ⟨by rw [dpa_len hd]; exact hl, fun p hn => ?_⟩
  exact put_tup s1 hn hd hp fun d z v F' H' hp s e r => hQ d z v F' H' hp s (ex1.trans e) r

/-! ### calls of defs -/
def slOf (env : List Sl) : Ar → Sl
  | .d x => .d x
  | .s i => env[i]?.getD .un
def arIx : List Ar → List Nat
  | [] => []
  | .s i :: r => i :: arIx r
  | .d _ :: r => arIx r
theorem arall_len : ∀ {vs : List V} {as : List Ar}, ArAll K F σ vs as → vs.length = as.length
  | [], [], _ => rfl
  | _ :: _, _ :: _, ⟨_, h⟩ => congrArg Nat.succ (arall_len h)
  | [], _ :: _, h => h.elim
  | _ :: _, [], h => h.elim
theorem arall_get : ∀ {vs : List V} {as : List Ar} {j : Nat} {a : Ar}, ArAll K F σ vs as → as[j]? = some a → ∃ v, vs[j]? = some v ∧ ArOk K F σ v a
  | [], [], j, a, _, h => by simp at h
  | v :: vs, x :: as, 0, a, ⟨h1, _⟩, h => by
    have e := Option.some.inj h
    subst e
    exact ⟨v, rfl, h1⟩
  | v :: vs, x :: as, j + 1, a, ⟨_, h2⟩, h => arall_get (j := j) h2 h
  | [], _ :: _, _, _, h, _ => h.elim
  | _ :: _, [], _, _, h, _ => h.elim
theorem arix_mem : ∀ {as : List Ar} {j i : Nat}, as[j]? = some (.s i) → i ∈ arIx as
  | .s k :: r, 0, i, h => by
    have e := Option.some.inj h
    injection e with e
    subst e
    exact List.mem_cons_self ..
  | .d x :: r, 0, i, h => by have e := Option.some.inj h; cases e
  | .s k :: r, j + 1, i, h => List.mem_cons_of_mem _ (arix_mem (as := r) (j := j) h)
  | .d x :: r, j + 1, i, h => arix_mem (as := r) (j := j) h
  | [], _, _, h => by simp at h
/-- the same slot is not handed on twice -/
theorem arix_inj : ∀ {as : List Ar} {j k i : Nat}, (arIx as).Nodup → as[j]? = some (.s i) → as[k]? = some (.s i) → j = k
  | [], _, _, _, _, h, _ => by simp at h
  | _ :: _, 0, 0, _, _, _, _ => rfl
  | .s l :: r, 0, k + 1, i, nd, h1, h2 => by
    have e := Option.some.inj h1
    injection e with e
    subst e
    exact absurd (arix_mem (as := r) (j := k) h2) (List.nodup_cons.mp nd).1
  | .s l :: r, j + 1, 0, i, nd, h1, h2 => by
    have e := Option.some.inj h2
    injection e with e
    subst e
    exact absurd (arix_mem (as := r) (j := j) h1) (List.nodup_cons.mp nd).1
  | .d l :: r, 0, k + 1, i, nd, h1, h2 => by have e := Option.some.inj h1; cases e
  | .d l :: r, j + 1, 0, i, nd, h1, h2 => by have e := Option.some.inj h2; cases e
  | .s l :: r, j + 1, k + 1, i, nd, h1, h2 => congrArg Nat.succ (arix_inj (as := r) (List.nodup_cons.mp nd).2 h1 h2)
  | .d l :: r, j + 1, k + 1, i, nd, h1, h2 => congrArg Nat.succ (arix_inj (as := r) nd h1 h2)
theorem map_get {α β : Type} {f : α → β} {l : List α} {j : Nat} {y : β} (h : (l.map f)[j]? = some y) : ∃ x, l[j]? = some x ∧ f x = y := by
  rw [List.getElem?_map] at h
  exact Option.map_eq_some_iff.mp h
theorem vmap_get {vs : List V} {j : Nat} {v : V} (h : vs[j]? = some v) : ((vs.map some)[j]?.getD none : Option V) = some v := by
  rw [List.getElem?_map, h]; rfl
/-- what the callee is handed -/
theorem Sk.callee {as : List Ar} {vs : List V} (st : Sk K F H σ env) (ha : ArAll K F σ vs as) (nd : (arIx as).Nodup) (hs : ∀ i ∈ arIx as, i < env.length) : Sk K F H (vs.map some) (as.map (slOf env)) where
  len := by rw [List.length_map, List.length_map]; exact arall_len ha
  sl := fun j s e => by
    obtain ⟨a, ea, es⟩ := map_get e
    obtain ⟨v, ev, hv⟩ := arall_get ha ea
    rw [vmap_get ev]
    cases a with
    | d x => rw [← es]; exact ⟨v, rfl, hv⟩
    | s i =>
      have hi := hs i (arix_mem ea)
      have q := st.sl i _ (List.getElem?_eq_getElem hi)
      have hv' : σ[i]? = some (some v) := hv
      rw [hv'] at q
      have e2 : s = env[i] := by rw [← es]; show env[i]?.getD .un = _; rw [List.getElem?_eq_getElem hi]; rfl
      rw [e2]; exact q
  nd := fun j k s t a ej ek h1 h2 => by
    obtain ⟨x, ex, rfl⟩ := map_get ej
    obtain ⟨y, ey, rfl⟩ := map_get ek
    cases x with
    | d z => cases h1
    | s i =>
      cases y with
      | d z => cases h2
      | s l =>
        have hi := hs i (arix_mem ex)
        have hl := hs l (arix_mem ey)
        have e1 : slOf env (.s i) = env[i] := by show env[i]?.getD .un = _; rw [List.getElem?_eq_getElem hi]; rfl
        have e2 : slOf env (.s l) = env[l] := by show env[l]?.getD .un = _; rw [List.getElem?_eq_getElem hl]; rfl
        rw [e1] at h1
        rw [e2] at h2
        have e := st.nd i l _ _ a (List.getElem?_eq_getElem hi) (List.getElem?_eq_getElem hl) h1 h2
        subst e
        exact arix_inj nd ex ey
  fr := fun a ⟨j, s, e, h1⟩ => by
    obtain ⟨x, ex, rfl⟩ := map_get e
    cases x with
    | d z => cases h1
    | s i =>
      have hi := hs i (arix_mem ex)
      have e1 : slOf env (.s i) = env[i] := by show env[i]?.getD .un = _; rw [List.getElem?_eq_getElem hi]; rfl
      exact st.fr a ⟨i, env[i], List.getElem?_eq_getElem hi, by rw [← e1]; exact h1⟩
  ex := st.ex
theorem own_args {as : List Ar} {a : Addr} (h : Own (as.map (slOf env)) a) : ∃ (j i : Nat) (s : Sl), as[j]? = some (.s i) ∧ env[i]? = some s ∧ a ∈ s.fp := by
  obtain ⟨j, s, e, h1⟩ := h
  obtain ⟨x, ex, rfl⟩ := map_get e
  cases x with
  | d z => cases h1
  | s i =>
    cases q : env[i]? with
    | none => have e1 : slOf env (.s i) = .un := by show env[i]?.getD .un = _; rw [q]; rfl
              rw [e1] at h1; cases h1
    | some s => have e1 : slOf env (.s i) = s := by show env[i]?.getD .un = _; rw [q]; rfl
                rw [e1] at h1; exact ⟨j, i, s, ex, q, h1⟩
/-- behind a call: the slots that were handed on are as the callee left them -/
theorem St.called {as : List Ar} {vs : List V} {args' env' : List Sl} (st : St K g F H σ env) (ha : ArAll K F σ vs as) (sk : Sk K F' H' (vs.map some) args') (hst : Step F H (as.map (slOf env)) F' H')
    (hl : env'.length = env.length) (hk : ∀ (i : Nat) (s : Sl), i ∉ arIx as → env'[i]? = some s → env[i]? = some s) (hp : ∀ (j i : Nat) (s : Sl), as[j]? = some (Ar.s i) → env'[i]? = some s → args'[j]? = some s)
    (hsub : ∀ (i : Nat) (s s' : Sl), env[i]? = some s → env'[i]? = some s' → ∀ a ∈ s'.fp, a ∈ s.fp) : St K g F' H' σ env' := by
  obtain ⟨e1, e2, e3, e4⟩ := hst
  have sub : ∀ a, Own env' a → Own env a := fun a ⟨i, s', h1, h2⟩ => by
    have hi : i < env.length := by rw [← hl]; exact (List.getElem?_eq_some_iff.mp h1).1
    exact ⟨i, env[i], List.getElem?_eq_getElem hi, hsub i _ s' (List.getElem?_eq_getElem hi) h1 a h2⟩
  have ownA : ∀ a, Own (as.map (slOf env)) a → Own env a := fun a h => by
    obtain ⟨j, i, s, _, h2, h3⟩ := own_args h
    exact ⟨i, s, h2, h3⟩
  have ixs : ∀ (i : Nat), i ∈ arIx as → ∃ j : Nat, as[j]? = some (Ar.s i) := fun i h => by
    clear hp hk ownA e2 ha
    induction as with
    | nil => cases h
    | cons x r ih =>
      cases x with
      | d z => obtain ⟨j, hj⟩ := ih h; exact ⟨j + 1, hj⟩
      | s l =>
        rcases List.mem_cons.mp (show i ∈ l :: arIx r from h) with e | h
        · subst e; exact ⟨0, rfl⟩
        · obtain ⟨j, hj⟩ := ih h; exact ⟨j + 1, hj⟩
  refine { len := by rw [hl]; exact st.len, sl := fun i s e => ?_, nd := fun i j s t a ei ej h1 h2 => ?_, fr := fun a h => ?_, ex := sk.ex, g1 := fun a o h m => ?_, g2 := fun a h => st.g2 a (sub a h), g3 := st.g3.trans e1, g4 := fun a h => ?_, g5 := fun a m z => ?_, g6 := st.g6 }
  · by_cases hi : i ∈ arIx as
    · obtain ⟨j, hj⟩ := ixs i hi
      have q := sk.sl j s (hp j i s hj e)
      obtain ⟨v, ev, hv⟩ := arall_get ha hj
      rw [vmap_get ev] at q
      have hv' : σ[i]? = some (some v) := hv
      rw [hv']; exact q
    · have e' := hk i s hi e
      refine slok_mono e1 (fun a h u q => e2 a u q fun z => ?_) (st.sl i s e')
      obtain ⟨j, l, t, h3, h4, h5⟩ := own_args z
      have el := st.nd i l s t a e' h4 h h5
      subst el
      exact hi (arix_mem h3)
  · have hi : i < env.length := by rw [← hl]; exact (List.getElem?_eq_some_iff.mp ei).1
    have hj : j < env.length := by rw [← hl]; exact (List.getElem?_eq_some_iff.mp ej).1
    exact st.nd i j _ _ a (List.getElem?_eq_getElem hi) (List.getElem?_eq_getElem hj) (hsub i _ s (List.getElem?_eq_getElem hi) ei a h1) (hsub j _ t (List.getElem?_eq_getElem hj) ej a h2)
  · have ho := sub a h
    cases q : F' a with
    | none => rfl
    | some u =>
      rcases e3 a (by rw [q]; intro z; cases z) with z | z
      · exact absurd (st.fr a ho) z
      · exact absurd z (st.there ho)
  · refine e2 a o (st.g1 a o h m) fun z => ?_
    rcases st.g2 a (ownA a z) with q | q
    · rw [q] at h; cases h
    · exact m q
  · rcases e3 a h with z | z
    · exact st.g4 a z
    · exact .inr (st.h0 z)
  · exact e4 a (st.g5 a m) z
end
end TL

namespace TL
open PySem PySem.Spec PyProof.Rows L2

section
variable {X : Cx} {g : G} {env : List Sl} {Ψ : Exc → Prop} {pos p : Pos} {a b c e : Expr} {es : List Expr} {K : Frag} {F F' H H' : Hp} {σ : SS}

/-! ### calls of defs -/
def PRd : PR → PyData → Prop
  | .rd d, d' => d' = d
  | .nl ds, d' => d' = .list ds
  | .ar _, _ => False
def natNd : List Nat → Bool
  | [] => true
  | x :: r => (r.all fun y => !Nat.beq x y) && natNd r
def callOk (as : List Ar) (m n : Nat) : Bool := Nat.beq as.length m && natNd (arIx as) && (arIx as).all fun i => Nat.blt i n
theorem natNd_ok : ∀ {l : List Nat}, natNd l = true → l.Nodup
  | [], _ => List.nodup_nil
  | x :: r, h => by
    have h' : (r.all fun y => !Nat.beq x y) = true ∧ natNd r = true := Bool.and_eq_true_iff.mp h
    refine List.nodup_cons.mpr ⟨fun hm => ?_, natNd_ok h'.2⟩
    have q := List.all_eq_true.mp h'.1 x hm
    rw [Nat.beq_refl] at q
    cases q
theorem callOk_ok {as : List Ar} {m n : Nat} (h : callOk as m n = true) : as.length = m ∧ (arIx as).Nodup ∧ ∀ i ∈ arIx as, i < n := by
  have h1 : (Nat.beq as.length m && natNd (arIx as)) = true ∧ ((arIx as).all fun i => Nat.blt i n) = true := Bool.and_eq_true_iff.mp h
  have h2 := Bool.and_eq_true_iff.mp h1.1
  refine ⟨Nat.eq_of_beq_eq_true h2.1, natNd_ok h2.2, fun i hi => ?_⟩
  have q := List.all_eq_true.mp h1.2 i hi
  exact Nat.le_of_ble_eq_true q
theorem st_same {as : List Ar} {vs : List V} {args' : List Sl} (st : St K g F H σ env) (ha : ArAll K F σ vs as) (sk : Sk K F' H' (vs.map some) args') (hst : Step F H (as.map (slOf env)) F' H') (e : args' = as.map (slOf env)) : St K g F' H' σ env := by
  subst e
  refine st.called ha sk hst rfl (fun _ _ _ h => h) (fun j i s h1 h2 => ?_) (fun i s s' h1 h2 a h3 => ?_)
  · rw [List.getElem?_map, h1]
    show some (env[i]?.getD .un) = some s
    rw [h2]; rfl
  · rw [h1] at h2; cases h2; exact h3
/-- a def is called; what it was handed stays as it is described -/
theorem call_run {j k : Nat} {x : Str} {ps : List Str} {S : CT} {Φ : PR → Prop} (hf : Has X.prog X.w X.K X.mg X.base j x ps S) (hr : Room k X.A)
    (h : WAs X g (e :: es) env (fun as => callOk as ps.length env.length = true ∧ S (as.map (slOf env)) (fun r args' => args' = as.map (slOf env) ∧ Φ r) (fun c args' => args' = as.map (slOf env) ∧ Ψ c)) Ψ)
    (hj : j ≤ k) (hg : Gl X x) (hdb : (x == ("__debug__" : Str)) = false)
    (he : starEach (e :: es) X.env = (false, eval e X.env) :: starEach es X.env) (hpl : (backTo pos (starEach es X.env)).any (·.1) = false)
    {W : WX} (tk : Takes X W) (st : St X.K g F H σ env) (hx : HX X g env Ψ W σ) {Q : VK}
    (hQ : ∀ r vs v F1 H1 F' H' args', Φ r → St X.K g F' H' σ env → Ex F F' → St X.K g F1 H1 σ env → PrOk X.K vs H1 F' H' args' v r → Q v H') : semE X (.Call (.Name x p) (e :: es) [] pos) σ H Q := by
  obtain ⟨f, fd, hm, hk, hb, F0⟩ := hf.ex
  refine semE_of (pe_callS F0 (hr.mono hj) hg hm hk hb (fun σ => passAt tk σ) (paS (e :: es)) hdb he hpl) ?_
  refine h W tk σ F H st hx _ fun as vs F1 H1 ⟨hok, hS⟩ s1 e1 ra => ?_
  obtain ⟨h1, h2, h3⟩ := callOk_ok hok
  refine ⟨by rw [arall_len ra, h1], F1, as.map (slOf env), _, _, hS, s1.toSk.callee ra h2 h3, fun r v args' F' H' ⟨ea, hp⟩ sk hst _ pr => ?_, fun c args' F' H' ⟨ea, hp⟩ sk hst _ => ?_⟩
  · exact hQ r vs v F1 H1 F' H' args' hp (st_same s1 ra sk hst ea) (e1.trans hst.1) s1 pr
  · have := hx c F' H' hp (st_same s1 ra sk hst ea)
    cases c
    exact this
theorem we_call {j k : Nat} {x : Str} {ps : List Str} {S : CT} {Φ : PyData → Bool → Prop} (hf : Has X.prog X.w X.K X.mg X.base j x ps S) (hr : Room k X.A)
    (h : WAs X g (e :: es) env (fun as => callOk as ps.length env.length = true ∧ S (as.map (slOf env)) (fun r args' => args' = as.map (slOf env) ∧ ∃ d, PRd r d ∧ Φ d true) (fun c args' => args' = as.map (slOf env) ∧ Ψ c)) Ψ)
    (hj : j ≤ k := by omega) (hg : Gl X x := by rfl) (hdb : (x == ("__debug__" : Str)) = false := by decide)
    (he : starEach (e :: es) X.env = (false, eval e X.env) :: starEach es X.env := by rfl) (hpl : (backTo pos (starEach es X.env)).any (·.1) = false := by rfl) : WE X g (.Call (.Name x p) (e :: es) [] pos) env Φ Ψ := fun W tk σ F H st hx Q hQ => by
  refine call_run (Φ := fun r => ∃ d, PRd r d ∧ Φ d true) hf hr h hj hg hdb he hpl tk st hx fun r vs v F1 H1 F' H' args' ⟨d, hd, hp⟩ s' e' s1 pr => ?_
  cases r with
  | rd d0 => subst hd; exact hQ _ true v F' H' hp s' e' pr
  | nl ds =>
    subst hd
    obtain ⟨q, xs, rfl, h1, h2, h3, h4, h5⟩ := pr
    have e2 := Ex.new (o := .lst xs) h3
    exact hQ (.list ds) true (.ref q) (upd F' q (.lst xs)) H' hp (s'.freeze h1 h3 (fun z => s1.there z h4) (s1.h0 h4)) (e'.trans e2) (.lst (SqL.of upd_same) (dpa_mono e2 _ _ h2))
  | ar i => exact hd.elim
theorem wn_call {j k : Nat} {x : Str} {ps : List Str} {S : CT} {Φ : List PyData → Prop} (hf : Has X.prog X.w X.K X.mg X.base j x ps S) (hr : Room k X.A)
    (h : WAs X g (e :: es) env (fun as => callOk as ps.length env.length = true ∧ S (as.map (slOf env)) (fun r args' => args' = as.map (slOf env) ∧ ∃ ds, r = .nl ds ∧ Φ ds) (fun c args' => args' = as.map (slOf env) ∧ Ψ c)) Ψ)
    (hj : j ≤ k := by omega) (hg : Gl X x := by rfl) (hdb : (x == ("__debug__" : Str)) = false := by decide)
    (he : starEach (e :: es) X.env = (false, eval e X.env) :: starEach es X.env := by rfl) (hpl : (backTo pos (starEach es X.env)).any (·.1) = false := by rfl) : WN X g (.Call (.Name x p) (e :: es) [] pos) env Φ Ψ := fun W tk σ F H st hx Q hQ => by
  refine call_run (Φ := fun r => ∃ ds, r = .nl ds ∧ Φ ds) hf hr h hj hg hdb he hpl tk st hx fun r vs v F1 H1 F' H' args' ⟨ds, hd, hp⟩ s' e' s1 pr => ?_
  subst hd
  obtain ⟨q, xs, rfl, h1, h2, h3, h4, h5⟩ := pr
  exact hQ ds (.ref q) F' H' hp s' e' ⟨q, xs, rfl, h1, h2, h3, fun z => s1.there z h4, s1.h0 h4⟩

/-! ### built-ins of one argument -/
theorem we_b1 {Φ : PyData → Bool → Prop} {R : PyData → Bool → Prop} {x : Str} {id : String} {r : List V → Hp → VK → Prop} (hc : CallR X (.builtin id) r) (hm : X.mg x = none) (hv : bootBuiltins x = some (.builtin id))
    (hr : ∀ d1 z1, R d1 z1 → DUn X.K g env (fun v => r [v]) d1 z1 Φ) (h : WE X g a env R Ψ) (hg : Gl X x := by rfl) (hn : x ≠ "__name__" := by decide) (hdb : (x == ("__debug__" : Str)) = false := by decide)
    (he : starEach [a] X.env = (false, eval a X.env) :: starEach [] X.env := by rfl) (hpl : (backTo pos (starEach ([] : List Expr) X.env)).any (·.1) = false := by rfl) : WE X g (.Call (.Name x p) [a] [] pos) env Φ Ψ := fun W tk σ F H st hx Q hQ => by
  refine semE_of (pe_callB hc hg hm hv (pa_cons (peS a) pa_nil he) hn hdb he hpl) ?_
  refine h W tk σ F H st hx _ fun d1 z1 v1 F1 H1 h1 st1 e1 r1 => ?_
  exact hr _ _ h1 σ F1 H1 v1 st1 r1 Q fun d z v F' H' hp s3 e3 r3 => hQ d z v F' H' hp s3 (e1.trans e3) r3
theorem we_t1 {Φ : PyData → Bool → Prop} {R : PyData → Bool → Prop} {x : Str} {id : String} {r : List V → Hp → VK → Prop} (hc : CallR X (.type id) r) (hm : X.mg x = none) (hv : bootBuiltins x = some (.type id))
    (hr : ∀ d1 z1, R d1 z1 → DUn X.K g env (fun v => r [v]) d1 z1 Φ) (h : WE X g a env R Ψ) (hg : Gl X x := by rfl) (hn : x ≠ "__name__" := by decide) (hdb : (x == ("__debug__" : Str)) = false := by decide)
    (he : starEach [a] X.env = (false, eval a X.env) :: starEach [] X.env := by rfl) (hpl : (backTo pos (starEach ([] : List Expr) X.env)).any (·.1) = false := by rfl) : WE X g (.Call (.Name x p) [a] [] pos) env Φ Ψ := fun W tk σ F H st hx Q hQ => by
  refine semE_of (pe_callTy hc hg hm hv (pa_cons (peS a) pa_nil he) hn hdb he hpl) ?_
  refine h W tk σ F H st hx _ fun d1 z1 v1 F1 H1 h1 st1 e1 r1 => ?_
  exact hr _ _ h1 σ F1 H1 v1 st1 r1 Q fun d z v F' H' hp s3 e3 r3 => hQ d z v F' H' hp s3 (e1.trans e3) r3
section
variable {Φ : PyData → Bool → Prop}
inductive LenP (Φ : PyData → Bool → Prop) : PyData → Bool → Prop
  | lst {xs : List PyData} {z : Bool} : Φ (.int xs.length) true → LenP Φ (.list xs) z
  | tup {xs : List PyData} {z : Bool} : Φ (.int xs.length) true → LenP Φ (.tuple xs) z
  | str {s : Str} {z : Bool} : Φ (.int s.length) true → s.length ≤ sizeLine → LenP Φ (.str s) z
theorem we_len (hm : X.mg "len" = none) (h : WE X g a env (LenP Φ) Ψ) (hg : Gl X "len" := by rfl) (he : starEach [a] X.env = (false, eval a X.env) :: starEach [] X.env := by rfl) : WE X g (.Call (.Name "len" p) [a] [] pos) env Φ Ψ :=
  we_b1 call_len hm PySem.boot_len (fun d1 z1 q σ F H v1 st r1 Q hQ => by
    cases q with
    | @lst xs z q =>
      obtain ⟨a1, vs1, rfl, s1, p1⟩ := rd_lst st.toSk r1
      exact ⟨_, xs.length, rfl, .inl ⟨_, s1, (dpa_len p1).symm⟩, hQ _ true _ F H q st (Ex.refl F) (.int _)⟩
    | @tup xs z q =>
      obtain ⟨a1, vs1, rfl, s1, p1⟩ := rd_tup st.toSk r1
      exact ⟨_, xs.length, rfl, .inr ⟨_, s1, (dpa_len p1).symm⟩, hQ _ true _ F H q st (Ex.refl F) (.int _)⟩
    | @str s z q hl => exact ⟨_, s.length, rfl, by rw [rd_str r1]; exact ⟨hl, rfl⟩, hQ _ true _ F H q st (Ex.refl F) (.int _)⟩) h hg (he := he)
theorem we_abs (hm : X.mg "abs" = none) (h : WE X g a env (fun d _ => ∃ i, d = .int i ∧ Φ (.int (if i < 0 then -i else i)) true) Ψ) (hg : Gl X "abs" := by rfl) (he : starEach [a] X.env = (false, eval a X.env) :: starEach [] X.env := by rfl) : WE X g (.Call (.Name "abs" p) [a] [] pos) env Φ Ψ :=
  we_b1 call_abs hm (by decide +kernel) (fun d1 z1 ⟨i, e, q⟩ σ F H v1 st r1 Q hQ => by
    subst e
    exact ⟨i, by rw [rd_int r1], hQ _ true _ F H q st (Ex.refl F) (.int _)⟩) h hg (he := he)
theorem we_sum (hm : X.mg "sum" = none) (hc : X.calm = true) (h : WE X g a env (fun d _ => ∃ ns : List Int, d = .list (ns.map .int) ∧ Φ (.int ns.sum) true) Ψ) (hg : Gl X "sum" := by rfl) (he : starEach [a] X.env = (false, eval a X.env) :: starEach [] X.env := by rfl) : WE X g (.Call (.Name "sum" p) [a] [] pos) env Φ Ψ :=
  we_b1 (cr_sum hc) hm (by decide +kernel) (fun d1 z1 ⟨ns, e, q⟩ σ F H v1 st r1 Q hQ => by
    subst e
    obtain ⟨a1, vs1, rfl, s1, p1⟩ := rd_lst st.toSk r1
    rw [dpa_ints_eq p1] at s1
    exact ⟨a1, ns, rfl, s1, hQ _ true _ F H q st (Ex.refl F) (.int _)⟩) h hg (he := he)
theorem dpa_bools_eq : ∀ {ns : List Bool} {vs : List V}, DpAll K H vs (ns.map PyData.bool) → vs = ns.map V.bl
  | [], _, h => by
    have h' : DpAll K H _ [] := h
    cases h'; rfl
  | n :: ns, _, h => by
    have h' : DpAll K H _ (.bool n :: ns.map PyData.bool) := h
    cases h' with
    | cons h1 h2 => rw [dp_bl h1, dpa_bools_eq h2]; rfl
theorem we_all (hm : X.mg "all" = none) (hc : X.calm = true) (h : WE X g a env (fun d _ => ∃ ns : List Bool, d = .list (ns.map .bool) ∧ Φ (.bool (ns.all id)) true) Ψ) (hg : Gl X "all" := by rfl) (he : starEach [a] X.env = (false, eval a X.env) :: starEach [] X.env := by rfl) : WE X g (.Call (.Name "all" p) [a] [] pos) env Φ Ψ :=
  we_b1 (cr_all hc) hm (by decide +kernel) (fun d1 z1 ⟨ns, e, q⟩ σ F H v1 st r1 Q hQ => by
    subst e
    obtain ⟨a1, vs1, rfl, s1, p1⟩ := rd_lst st.toSk r1
    rw [dpa_bools_eq p1] at s1
    exact ⟨a1, ns, rfl, s1, hQ _ true _ F H q st (Ex.refl F) (.bl _)⟩) h hg (he := he)
theorem we_any (hm : X.mg "any" = none) (hc : X.calm = true) (h : WE X g a env (fun d _ => ∃ ns : List Bool, d = .list (ns.map .bool) ∧ Φ (.bool (ns.any id)) true) Ψ) (hg : Gl X "any" := by rfl) (he : starEach [a] X.env = (false, eval a X.env) :: starEach [] X.env := by rfl) : WE X g (.Call (.Name "any" p) [a] [] pos) env Φ Ψ :=
  we_b1 (cr_any hc) hm (by decide +kernel) (fun d1 z1 ⟨ns, e, q⟩ σ F H v1 st r1 Q hQ => by
    subst e
    obtain ⟨a1, vs1, rfl, s1, p1⟩ := rd_lst st.toSk r1
    rw [dpa_bools_eq p1] at s1
    exact ⟨a1, ns, rfl, s1, hQ _ true _ F H q st (Ex.refl F) (.bl _)⟩) h hg (he := he)
inductive IntOfP (Φ : PyData → Bool → Prop) : PyData → Bool → Prop
  | int {i : Int} {z : Bool} : Φ (.int i) true → IntOfP Φ (.int i) z
  | bool {k : Bool} {z : Bool} : Φ (.int (if k then 1 else 0)) true → IntOfP Φ (.bool k) z
theorem we_intof (hm : X.mg "int" = none) (h : WE X g a env (IntOfP Φ) Ψ) (hg : Gl X "int" := by rfl) (he : starEach [a] X.env = (false, eval a X.env) :: starEach [] X.env := by rfl) : WE X g (.Call (.Name "int" p) [a] [] pos) env Φ Ψ :=
  we_t1 call_int1 hm (by decide +kernel) (fun d1 z1 q σ F H v1 st r1 Q hQ => by
    cases q with
    | @int i z q => exact .inl ⟨i, by rw [rd_int r1], hQ _ true _ F H q st (Ex.refl F) (.int _)⟩
    | @bool k z q => exact .inr ⟨k, by rw [rd_bl r1], hQ _ true _ F H q st (Ex.refl F) (.int _)⟩) h hg (he := he)
inductive TupP (Φ : PyData → Bool → Prop) : PyData → Bool → Prop
  | lst {xs : List PyData} {z : Bool} : Φ (.tuple xs) true → TupP Φ (.list xs) z
  | tup {xs : List PyData} : Φ (.tuple xs) true → TupP Φ (.tuple xs) true
theorem we_tupof (hm : X.mg "tuple" = none) (h : WE X g a env (TupP Φ) Ψ) (hg : Gl X "tuple" := by rfl) (he : starEach [a] X.env = (false, eval a X.env) :: starEach [] X.env := by rfl) : WE X g (.Call (.Name "tuple" p) [a] [] pos) env Φ Ψ :=
  we_t1 call_tuple_of hm (by decide +kernel) (fun d1 z1 q σ F H v1 st r1 Q hQ => by
    cases q with
    | @lst xs z q =>
      obtain ⟨a1, vs1, rfl, s1, p1⟩ := rd_lst st.toSk r1
      exact ⟨a1, vs1, rfl, .inl ⟨s1, fun l hl => put_tup st hl p1 q hQ⟩⟩
    | @tup xs q =>
      obtain ⟨a1, vs1, rfl, s1, p1⟩ := rd_tup st.toSk r1
      exact ⟨a1, vs1, rfl, .inr ⟨s1, hQ _ true _ F H q st (Ex.refl F) r1⟩⟩) h hg (he := he)
end
/-! ### new lists by built-ins -/
def DNew (K : Frag) (g : G) (env : List Sl) (r : V → Hp → VK → Prop) (d1 : PyData) (z1 : Bool) (Φ : List PyData → Prop) : Prop :=
  ∀ (σ : SS) (F H : Hp) (v1 : V), St K g F H σ env → Rd K F env z1 v1 d1 →
    ∀ Q : VK, (∀ ds v F' H', Φ ds → St K g F' H' σ env → Ex F F' → NewL K g F' H' env v ds → Q v H') → r v1 H Q
theorem wn_b1 {Φ : List PyData → Prop} {R : PyData → Bool → Prop} {x : Str} {id : String} {r : List V → Hp → VK → Prop} (hc : CallR X (.builtin id) r) (hm : X.mg x = none) (hv : bootBuiltins x = some (.builtin id))
    (hr : ∀ d1 z1, R d1 z1 → DNew X.K g env (fun v => r [v]) d1 z1 Φ) (h : WE X g a env R Ψ) (hg : Gl X x := by rfl) (hn : x ≠ "__name__" := by decide) (hdb : (x == ("__debug__" : Str)) = false := by decide)
    (he : starEach [a] X.env = (false, eval a X.env) :: starEach [] X.env := by rfl) (hpl : (backTo pos (starEach ([] : List Expr) X.env)).any (·.1) = false := by rfl) : WN X g (.Call (.Name x p) [a] [] pos) env Φ Ψ := fun W tk σ F H st hx Q hQ => by
  refine semE_of (pe_callB hc hg hm hv (pa_cons (peS a) pa_nil he) hn hdb he hpl) ?_
  refine h W tk σ F H st hx _ fun d1 z1 v1 F1 H1 h1 st1 e1 r1 => ?_
  exact hr _ _ h1 σ F1 H1 v1 st1 r1 Q fun ds v F' H' hp s3 e3 r3 => hQ ds v F' H' hp s3 (e1.trans e3) r3
theorem wn_t1 {Φ : List PyData → Prop} {R : PyData → Bool → Prop} {x : Str} {id : String} {r : List V → Hp → VK → Prop} (hc : CallR X (.type id) r) (hm : X.mg x = none) (hv : bootBuiltins x = some (.type id))
    (hr : ∀ d1 z1, R d1 z1 → DNew X.K g env (fun v => r [v]) d1 z1 Φ) (h : WE X g a env R Ψ) (hg : Gl X x := by rfl) (hn : x ≠ "__name__" := by decide) (hdb : (x == ("__debug__" : Str)) = false := by decide)
    (he : starEach [a] X.env = (false, eval a X.env) :: starEach [] X.env := by rfl) (hpl : (backTo pos (starEach ([] : List Expr) X.env)).any (·.1) = false := by rfl) : WN X g (.Call (.Name x p) [a] [] pos) env Φ Ψ := fun W tk σ F H st hx Q hQ => by
  refine semE_of (pe_callTy hc hg hm hv (pa_cons (peS a) pa_nil he) hn hdb he hpl) ?_
  refine h W tk σ F H st hx _ fun d1 z1 v1 F1 H1 h1 st1 e1 r1 => ?_
  exact hr _ _ h1 σ F1 H1 v1 st1 r1 Q fun ds v F' H' hp s3 e3 r3 => hQ ds v F' H' hp s3 (e1.trans e3) r3
inductive LstP (Φ : List PyData → Prop) : PyData → Bool → Prop
  | lst {xs : List PyData} {z : Bool} : Φ xs → LstP Φ (.list xs) z
  | tup {xs : List PyData} {z : Bool} : Φ xs → LstP Φ (.tuple xs) z
theorem wn_listof {Φ : List PyData → Prop} (hm : X.mg "list" = none) (h : WE X g a env (LstP Φ) Ψ) (hg : Gl X "list" := by rfl) (he : starEach [a] X.env = (false, eval a X.env) :: starEach [] X.env := by rfl) : WN X g (.Call (.Name "list" p) [a] [] pos) env Φ Ψ :=
  wn_t1 call_list_of hm (by decide +kernel) (fun d1 z1 q σ F H v1 st r1 Q hQ => by
    cases q with
    | @lst xs z q =>
      obtain ⟨a1, vs1, rfl, s1, p1⟩ := rd_lst st.toSk r1
      exact ⟨a1, vs1, rfl, .inl s1, fun l hl => put_new st hl p1 q hQ⟩
    | @tup xs z q =>
      obtain ⟨a1, vs1, rfl, s1, p1⟩ := rd_tup st.toSk r1
      exact ⟨a1, vs1, rfl, .inr s1, fun l hl => put_new st hl p1 q hQ⟩) h hg (he := he)
/-- sorted(xs), any data that can be put in order -/
def rSortD (K : Frag) : List V → Hp → VK → Prop := fun vs H Q => ∃ (a : Addr) (xs : List V) (ds : List PyData) (F : Hp), vs = [V.ref a] ∧ SqL K H a xs ∧ DpAll K F xs ds ∧ Ex F H ∧ PySem.W.AllAlike ds ∧ PySem.W.Sortable ds ∧ (∀ d ∈ ds, d.depth ≤ 64) ∧
  ∀ (ys : List V) (p : Addr), DpAll K F ys (ds.mergeSort (PySem.W.dataLe false id)) → H p = none → Q (.ref p) (upd H p (.lst ys))
theorem each_of {X : Cx} {pins : List (Addr × Obj)} {s : Shared} {F : Hp} (I : Inv X pins σ H s) (e : Ex F H) : ∀ {ds : List PyData} {xs : List V} {its : List Value}, Vals xs its → DpAll X.K F xs ds →
    PySem.W.EachIs (fun u d => ∃ x : V, RelV x u ∧ Dp X.K F x d) its ds ∧ PySem.W.EachIs (fun u d => ∃ as, Reads s.heap u (id d) as) its ds
  | [], _, _, r, h => by
    cases h
    cases r
    exact ⟨.nil, .nil⟩
  | d :: ds, _, _, r, h => by
    cases h with
    | cons h1 h2 =>
      cases r with
      | cons r1 r2 =>
        obtain ⟨q1, q2⟩ := each_of I e r2 h2
        exact ⟨.cons ⟨_, r1, h1⟩ q1, .cons (Dp.reads I d _ _ (dp_mono e _ _ h1) r1) q2⟩
theorem each_back {F : Hp} : ∀ {ds : List PyData} {out : List Value}, PySem.W.EachIs (fun u d => ∃ x : V, RelV x u ∧ Dp K F x d) out ds → ∃ ys, Vals ys out ∧ DpAll K F ys ds
  | _, _, .nil => ⟨[], .nil, .nil⟩
  | _, _, .cons ⟨x, h1, h2⟩ t => by
    obtain ⟨ys, q1, q2⟩ := each_back t
    exact ⟨x :: ys, .cons h1 q1, .cons h2 q2⟩
theorem cr_sortD {k : Nat} (hr : Room k X.A) : CallR X (.builtin "sorted") (rSortD X.K) := by
  intro pins s σ H vs us Q I r h
  obtain ⟨a, xs, ds, F, rfl, hs, hd, eF, hal, hk, hdp, q⟩ := h
  obtain ⟨its, rv, hl, hz⟩ := I.list hs
  rw [Vals.ref1 r]
  obtain ⟨q1, q2⟩ := each_of I eF rv hd
  have hids : ds.map id = ds := List.map_id ds
  have hu := hr.un
  refine PySem.W.sorted_data (enc := id) hl.isList q1 q2 (by rw [hids]; exact hal) (by rw [hids]; exact hk) (by rw [← dpa_len hd]; exact hz) (fun b hb => by have := hdp b hb; show X.A.units + 2 + b.depth < cLine; omega) fun out h1 h2 => ?_
  obtain ⟨ys, k1, k2⟩ := each_back h2
  obtain ⟨ep, he'⟩ := PyProof.Rows.sortedAll_at s.heap its out.toArray
  have hlen : ys.length ≤ sizeLine := by rw [k1.length, h1, ← dpa_len hd]; exact hz
  exact ⟨.ref _, upd H (s.heap.objs.size + 1) (.lst ys), I.laid (t' := s.toks) (fun _ _ => PyProof.Rows.sortedAll_old) (Nat.le_succ _) ⟨hlen, out, ep, k1, he'⟩, rfl, q _ _ k2 (I.hok.fresh (Nat.le_succ _))⟩
/-- the list in order -/
def srt (ds : List PyData) : List PyData := ds.mergeSort (PySem.W.dataLe false id)
theorem wn_sorted {k : Nat} {Φ : List PyData → Prop} (hm : X.mg "sorted" = none) (hr : Room k X.A) (h : WE X g a env (fun d _ => ∃ ds, d = .list ds ∧ PySem.W.AllAlike ds ∧ PySem.W.Sortable ds ∧ (∀ d ∈ ds, d.depth ≤ 64) ∧ Φ (srt ds)) Ψ) (hg : Gl X "sorted" := by rfl) (he : starEach [a] X.env = (false, eval a X.env) :: starEach [] X.env := by rfl) : WN X g (.Call (.Name "sorted" p) [a] [] pos) env Φ Ψ :=
  wn_b1 (cr_sortD hr) hm (by decide +kernel) (fun d1 z1 ⟨ds, e, h1, h2, h3, q⟩ σ F H v1 st r1 Q hQ => by
    subst e
    obtain ⟨a1, vs1, rfl, s1, p1⟩ := rd_lst st.toSk r1
    exact ⟨a1, vs1, ds, F, rfl, s1, p1, st.ex, h1, h2, h3, fun ys p hy hn => put_new st hn hy q hQ⟩) h hg (he := he)
/-! ### built-ins of two arguments -/
theorem we_b2 {Φ : PyData → Bool → Prop} {R : PyData → Bool → PyData → Bool → Prop} {x : Str} {id : String} {r : List V → Hp → VK → Prop} (hc : CallR X (.builtin id) r) (hm : X.mg x = none) (hv : bootBuiltins x = some (.builtin id))
    (hr : ∀ d1 z1 d2 z2, R d1 z1 d2 z2 → DOp X.K g env (fun v w => r [v, w]) d1 z1 d2 z2 Φ) (h : WE X g a env (fun d1 z1 => WE X g b env (fun d2 z2 => R d1 z1 d2 z2) Ψ) Ψ) (hg : Gl X x := by rfl) (hn : x ≠ "__name__" := by decide) (hdb : (x == ("__debug__" : Str)) = false := by decide)
    (he : starEach [a, b] X.env = (false, eval a X.env) :: starEach [b] X.env := by rfl) (he2 : starEach [b] X.env = (false, eval b X.env) :: starEach [] X.env := by rfl) (hpl : (backTo pos (starEach [b] X.env)).any (·.1) = false := by rfl) : WE X g (.Call (.Name x p) [a, b] [] pos) env Φ Ψ := fun W tk σ F H st hx Q hQ => by
  refine semE_of (pe_callB hc hg hm hv (pa_cons (peS a) (pa_cons (peS b) pa_nil he2) he) hn hdb he hpl) ?_
  refine h W tk σ F H st hx _ fun d1 z1 v1 F1 H1 h1 st1 e1 r1 => ?_
  refine h1 W tk σ F1 H1 st1 hx _ fun d2 z2 v2 F2 H2 h2 st2 e2 r2 => ?_
  exact hr _ _ _ _ h2 σ F2 H2 v1 v2 st2 (rd_mono e2 r1) r2 Q fun d z v F' H' hp s3 e3 r3 => hQ d z v F' H' hp s3 ((e1.trans e2).trans e3) r3
theorem we_min2 {Φ : PyData → Bool → Prop} (hm : X.mg "min" = none) (hc : X.calm = true) (h : WE X g a env (fun d1 z1 => WE X g b env (fun d2 z2 => ∃ i j, d1 = .int i ∧ d2 = .int j ∧ Φ (.int (if j < i then j else i)) true) Ψ) Ψ) (hg : Gl X "min" := by rfl) (he : starEach [a, b] X.env = (false, eval a X.env) :: starEach [b] X.env := by rfl) (he2 : starEach [b] X.env = (false, eval b X.env) :: starEach [] X.env := by rfl) (hpl : (backTo pos (starEach [b] X.env)).any (·.1) = false := by rfl) : WE X g (.Call (.Name "min" p) [a, b] [] pos) env Φ Ψ :=
  we_b2 (call_min2 hc) hm (by decide +kernel) (fun d1 z1 d2 z2 ⟨i, j, e1, e2, q⟩ => by
    subst e1 e2
    exact dop_of q fun σ F H v1 v2 Q st r1 r2 k => ⟨i, j, by rw [rd_int r1, rd_int r2], k _ (.int _)⟩) h hg (he := he) (he2 := he2) (hpl := hpl)
theorem we_max2 {Φ : PyData → Bool → Prop} (hm : X.mg "max" = none) (hc : X.calm = true) (h : WE X g a env (fun d1 z1 => WE X g b env (fun d2 z2 => ∃ i j, d1 = .int i ∧ d2 = .int j ∧ Φ (.int (if j > i then j else i)) true) Ψ) Ψ) (hg : Gl X "max" := by rfl) (he : starEach [a, b] X.env = (false, eval a X.env) :: starEach [b] X.env := by rfl) (he2 : starEach [b] X.env = (false, eval b X.env) :: starEach [] X.env := by rfl) (hpl : (backTo pos (starEach [b] X.env)).any (·.1) = false := by rfl) : WE X g (.Call (.Name "max" p) [a, b] [] pos) env Φ Ψ :=
  we_b2 (call_max2 hc) hm (by decide +kernel) (fun d1 z1 d2 z2 ⟨i, j, e1, e2, q⟩ => by
    subst e1 e2
    exact dop_of q fun σ F H v1 v2 Q st r1 r2 k => ⟨i, j, by rw [rd_int r1, rd_int r2], k _ (.int _)⟩) h hg (he := he) (he2 := he2) (hpl := hpl)

/-! ### slices -/
def WP (X : Cx) (g : G) (e : Option Expr) (env : List Sl) (Φ : Option Int → Prop) (Ψ : Exc → Prop) : Prop := match e with
  | none => Φ none
  | some e => WE X g e env (fun d _ => ∃ i, d = .int i ∧ Φ (some i)) Ψ
def semO (X : Cx) : Option Expr → TO
  | none => tNoPart
  | some e => tPart (semE X e)
theorem poS : ∀ e : Option Expr, PO X e (semO X e)
  | none => po_none
  | some e => po_some (peS e)
theorem wp_run {o : Option Expr} {Φ : Option Int → Prop} (h : WP X g o env Φ Ψ) {W : WX} (tk : Takes X W) (st : St X.K g F H σ env) (hx : HX X g env Ψ W σ) {Q : Option Int → Hp → Prop}
    (hQ : ∀ i F' H', Φ i → St X.K g F' H' σ env → Ex F F' → Q i H') : semO X o σ H Q := by
  cases o with
  | none => exact hQ none F H h st (Ex.refl F)
  | some e =>
    refine h W tk σ F H st hx _ fun d z v F' H' ⟨i, hd, hp⟩ s' e' r' => ?_
    subst hd
    exact ⟨i, rd_int r', hQ (some i) F' H' hp s' e'⟩
/-- the items of xs[lo:hi] -/
def cut {α : Type} (xs : List α) (lo hi : Option Int) : List α := (xs.drop (HT.sIx xs.length 0 lo)).take (HT.sIx xs.length xs.length hi - HT.sIx xs.length 0 lo)
theorem dpa_cut {ds : List PyData} {vs : List V} (h : DpAll K H vs ds) (lo hi : Option Int) : DpAll K H (cutV vs lo hi) (cut ds lo hi) := by
  unfold cutV cut
  rw [dpa_len h]
  exact dpa_take _ (dpa_drop _ h)
theorem wn_sliceL {lo hi : Option Expr} {p2 : Pos} {Φ : List PyData → Prop} (h : WE X g a env (fun d1 _ => ∃ xs, d1 = .list xs ∧ WP X g lo env (fun l => WP X g hi env (fun u => Φ (cut xs l u)) Ψ) Ψ) Ψ) : WN X g (.Subscript a (.Slice lo hi none p2) pos) env Φ Ψ := fun W tk σ F H st hx Q hQ => by
  refine semE_of (pe_slice sl_list (peS a) (poS lo) (poS hi)) ?_
  refine h W tk σ F H st hx _ fun d1 z1 v1 F1 H1 ⟨xs, hd, h1⟩ st1 e1 r1 => ?_
  subst hd
  refine wp_run h1 tk st1 hx fun l F2 H2 h2 st2 e2 => wp_run h2 tk st2 hx fun u F3 H3 h3 st3 e3 => ?_
  obtain ⟨a1, vs1, rfl, s1, p1⟩ := rd_lst st3.toSk (rd_mono (e2.trans e3) r1)
  exact ⟨a1, vs1, rfl, s1, fun p hp => put_new st3 hp (dpa_cut p1 l u) h3 fun ds v F' H' hp s e r => hQ ds v F' H' hp s (((e1.trans e2).trans e3).trans e) r⟩
end
end TL

namespace TL
open PySem PySem.Spec PyProof.Rows L2

/-! ### re-basing -/
def fps (env : List Sl) : List Addr := env.flatMap Sl.fp
theorem own_fps {env : List Sl} {a : Addr} : Own env a ↔ a ∈ fps env := by
  unfold fps
  rw [List.mem_flatMap]
  constructor
  · rintro ⟨i, s, h1, h2⟩
    exact ⟨s, List.mem_of_getElem? h1, h2⟩
  · rintro ⟨s, h1, h2⟩
    obtain ⟨i, hi⟩ := List.getElem?_of_mem h1
    exact ⟨i, s, hi, h2⟩
section
variable {X : Cx} {g : G} {env env' : List Sl} {Ψ : Exc → Prop} {pos p : Pos} {a b c e : Expr} {es : List Expr} {K : Frag} {F F' H H' : Hp} {σ σ' : SS}
theorem Sk.base (st : Sk K F H σ env) : St K ⟨F, H, fps env⟩ F H σ env :=
  { st with g1 := fun _ _ h _ => h, g2 := fun a h => .inr (own_fps.mp h), g3 := Ex.refl F, g4 := fun a h => .inl h, g5 := fun a h => st.there (own_fps.mpr h), g6 := fun a h => st.there (own_fps.mpr h) }
theorem St.rebase (st : St K g F H σ env) (st' : St K ⟨F, H, fps env⟩ F' H' σ' env') (sub : ∀ a, Own env' a → Own env a) : St K g F' H' σ' env' :=
  { st'.toSk with
    g1 := fun a o h m => st'.g1 a o (st.g1 a o h m) fun z => by
      rcases st.g2 a (own_fps.mpr z) with q | q
      · rw [q] at h; cases h
      · exact m q
    g2 := fun a h => st.g2 a (sub a h)
    g3 := st.g3.trans st'.g3
    g4 := fun a h => by
      rcases st'.g4 a h with q | q
      · exact st.g4 a q
      · exact .inr (st.h0 q)
    g5 := fun a m z => by
      by_cases h : a ∈ fps env
      · exact st'.g5 a h z
      · cases q : H a with
        | none => exact st.g5 a m q
        | some u => rw [st'.g1 a u q h] at z; cases z
    g6 := st.g6 }

/-! ### several slots set, slots wiped -/
def putsE (env : List Sl) : List (Nat × PyData) → List Sl
  | [] => env
  | (i, d) :: r => putsE (env.set i (.d d)) r
def putsV (σ : SS) : List (Nat × V) → SS
  | [] => σ
  | (i, v) :: r => putsV (σ.set i (some v)) r
def SetsP (K : Frag) (F : Hp) : List (Nat × V) → List (Nat × PyData) → Prop
  | [], [] => True
  | (i, v) :: r, (j, d) :: l => i = j ∧ Dp K F v d ∧ SetsP K F r l
  | _, _ => False
theorem setsP_mono (e : Ex F F') : ∀ {r : List (Nat × V)} {l : List (Nat × PyData)}, SetsP K F r l → SetsP K F' r l
  | [], [], _ => trivial
  | _ :: _, _ :: _, ⟨h1, h2, h3⟩ => ⟨h1, dp_mono e _ _ h2, setsP_mono e h3⟩
theorem setsP_app : ∀ {r r' : List (Nat × V)} {l l' : List (Nat × PyData)}, SetsP K F r l → SetsP K F r' l' → SetsP K F (r ++ r') (l ++ l')
  | [], _, [], _, _, h => h
  | _ :: _, _, _ :: _, _, ⟨h1, h2, h3⟩, h => ⟨h1, h2, setsP_app h3 h⟩
  | [], _, _ :: _, _, h, _ => h.elim
  | _ :: _, _, [], _, h, _ => h.elim
theorem putsV_app (σ : SS) : ∀ (r r' : List (Nat × V)), putsV σ (r ++ r') = putsV (putsV σ r) r'
  | [], _ => rfl
  | (i, v) :: r, r' => putsV_app (σ.set i (some v)) r r'
theorem putsE_len : ∀ (l : List (Nat × PyData)) (env : List Sl), (putsE env l).length = env.length
  | [], _ => rfl
  | (i, d) :: r, env => by rw [putsE, putsE_len r, List.length_set]
theorem St.sets : ∀ {r : List (Nat × V)} {l : List (Nat × PyData)} {σ : SS} {env : List Sl}, St K g F H σ env → SetsP K F r l → (∀ q ∈ l, q.1 < env.length) → St K g F H (putsV σ r) (putsE env l)
  | [], [], _, _, st, _, _ => st
  | (i, v) :: r, (j, d) :: l, σ, env, st, ⟨h1, h2, h3⟩, hl => by
    have h1' : i = j := h1
    subst h1'
    have s2 : St K g F H (σ.set i (some v)) (env.set i (.d d)) := st.setD (hl (i, d) (List.mem_cons_self ..)) h2
    exact St.sets (r := r) (l := l) s2 h3 fun q hq => by rw [List.length_set]; exact hl q (List.mem_cons_of_mem _ hq)
  | [], _ :: _, _, _, _, h, _ => h.elim
  | _ :: _, [], _, _, _, h, _ => h.elim
theorem setsP_idx {vs : List Nat} : ∀ {r : List (Nat × V)} {l : List (Nat × PyData)}, SetsP K F r l → (∀ q ∈ l, q.1 ∈ vs) → ∀ q ∈ r, q.1 ∈ vs
  | [], _, _, _, q, hq => by cases hq
  | a :: r, b :: l, ⟨h1, _, h3⟩, hl, q, hq => by
    rcases List.mem_cons.mp hq with z | z
    · rw [z, show a.1 = b.1 from h1]; exact hl b (List.mem_cons_self ..)
    · exact setsP_idx h3 (fun q hq => hl q (List.mem_cons_of_mem _ hq)) q z
  | _ :: _, [], h, _, _, _ => h.elim
theorem putsV_len : ∀ (r : List (Nat × V)) (σ : SS), (putsV σ r).length = σ.length
  | [], _ => rfl
  | (i, v) :: r, σ => by rw [putsV, putsV_len r, List.length_set]
theorem putsV_get {i : Nat} : ∀ {r : List (Nat × V)} {σ : SS}, (∀ q ∈ r, q.1 ≠ i) → (putsV σ r)[i]? = σ[i]?
  | [], _, _ => rfl
  | (j, v) :: r, σ, h => by
    rw [putsV, putsV_get fun q hq => h q (List.mem_cons_of_mem _ hq), List.getElem?_set, if_neg (h (j, v) (List.mem_cons_self ..))]
theorem putsE_get {i : Nat} : ∀ {r : List (Nat × PyData)} {env : List Sl}, (∀ q ∈ r, q.1 ≠ i) → (putsE env r)[i]? = env[i]?
  | [], _, _ => rfl
  | (j, v) :: r, env, h => by
    rw [putsE, putsE_get fun q hq => h q (List.mem_cons_of_mem _ hq), List.getElem?_set, if_neg (h (j, v) (List.mem_cons_self ..))]
/-- a new object that no slot holds is changed -/
theorem St.untracked {D : Addr} {o' : HO} (st : St K g F H σ env) (hF : F D = none) (hn : ¬ Own env D) (h0 : g.H0 D = none) : St K g F (upd H D o') σ env where
  len := st.len
  sl := fun i s e => slok_mono (Ex.refl F) (fun a ha u q => by
    have hne : a ≠ D := fun z => hn ⟨i, s, e, z ▸ ha⟩
    rw [upd_ne hne]; exact q) (st.sl i s e)
  nd := st.nd
  fr := st.fr
  ex := st.ex.mut hF
  g1 := fun a o h m => by
    have hne : a ≠ D := fun z => by rw [z, h0] at h; cases h
    rw [upd_ne hne]; exact st.g1 a o h m
  g2 := st.g2
  g3 := st.g3
  g4 := st.g4
  g5 := fun a m z => by
    by_cases hb : a = D
    · subst hb; rw [upd_same] at z; cases z
    · rw [upd_ne hb] at z; exact st.g5 a m z
  g6 := st.g6
theorem own_putsE : ∀ {l : List (Nat × PyData)} {env : List Sl} {a : Addr}, Own (putsE env l) a → Own env a
  | [], _, _, h => h
  | (i, d) :: r, env, a, h => by
    rcases own_set (own_putsE (l := r) h) with q | q
    · cases q
    · exact q
/-- what a target does with data -/
def TGd (K : Frag) (t : TG) (A : PyData → Option (List (Nat × PyData))) : Prop :=
  ∀ (x : PyData) (l : List (Nat × PyData)) (σ : SS) (F H : Hp) (v : V) (Q : SS → Hp → Prop), A x = some l → Ex F H → Dp K F v x → (∀ r, SetsP K F r l → Q (putsV σ r) H) → t v σ H Q
theorem tgd_name (j : Nat) : TGd K (gName j) (fun x => some [(j, x)]) := fun x l σ F H v Q e eF hd h => by
  have e' := Option.some.inj e
  subst e'
  exact h [(j, v)] ⟨rfl, hd, trivial⟩
def tgs : List (PyData → Option (List (Nat × PyData))) → List PyData → Option (List (Nat × PyData))
  | [], [] => some []
  | A :: As, x :: xs => match A x, tgs As xs with
    | some l, some r => some (l ++ r)
    | _, _ => none
  | _, _ => none
def TGds (K : Frag) (t : TGs) (As : List (PyData → Option (List (Nat × PyData)))) : Prop :=
  ∀ (xs : List PyData) (l : List (Nat × PyData)) (σ : SS) (F H : Hp) (vs : List V) (Q : SS → Hp → Prop), tgs As xs = some l → Ex F H → DpAll K F vs xs → (∀ r, SetsP K F r l → Q (putsV σ r) H) → t vs σ H Q
theorem tgds_nil : TGds K gNil [] := fun xs l σ F H vs Q e eF hd h => by
  cases xs with
  | nil =>
    cases hd
    have e' := Option.some.inj e
    subst e'
    exact ⟨rfl, h [] trivial⟩
  | cons x r => cases e
theorem tgds_cons {t : TG} {u : TGs} {A : PyData → Option (List (Nat × PyData))} {As : List (PyData → Option (List (Nat × PyData)))} (h1 : TGd K t A) (h2 : TGds K u As) : TGds K (gCons t u) (A :: As) := fun xs l σ F H vs Q e eF hd h => by
  cases xs with
  | nil => cases e
  | cons x r =>
    cases hd with
    | @cons v vs d ds hd1 hd2 =>
      have e0 : (match A x, tgs As r with | some l, some r => some (l ++ r) | _, _ => none) = some l := e
      cases q1 : A x with
      | none => rw [q1] at e0; cases e0
      | some l1 =>
        cases q2 : tgs As r with
        | none => rw [q1, q2] at e0; cases e0
        | some l2 =>
          rw [q1, q2] at e0
          have e' := Option.some.inj e0
          subst e'
          refine ⟨v, vs, rfl, h1 x l1 σ F H v _ q1 eF hd1 fun r1 s1 => h2 r l2 _ F H vs Q q2 eF hd2 fun r2 s2 => ?_⟩
          rw [← putsV_app]
          exact h (r1 ++ r2) (setsP_app s1 s2)
def tgTup (As : List (PyData → Option (List (Nat × PyData)))) : PyData → Option (List (Nat × PyData))
  | .tuple xs => tgs As xs
  | _ => none
theorem tgs_len : ∀ {As : List (PyData → Option (List (Nat × PyData)))} {xs : List PyData} {l : List (Nat × PyData)}, tgs As xs = some l → xs.length = As.length
  | [], [], _, _ => rfl
  | A :: As, x :: xs, l, e => by
    have e0 : (match A x, tgs As xs with | some l, some r => some (l ++ r) | _, _ => none) = some l := e
    cases q2 : tgs As xs with
    | none => rw [q2] at e0; cases q1 : A x <;> rw [q1] at e0 <;> cases e0
    | some l2 => exact congrArg Nat.succ (tgs_len q2)
  | [], _ :: _, _, e => by cases e
  | _ :: _, [], _, e => by cases e
theorem tgd_tup {u : TGs} {n : Nat} {As : List (PyData → Option (List (Nat × PyData)))} (h : TGds K u As) (hn : As.length = n) : TGd K (gTup K n u) (tgTup As) := fun x l σ F H v Q e eF hd hQ => by
  cases x with
  | tuple xs =>
    obtain ⟨a, vs, rfl, h1, h2⟩ := dp_tup hd
    exact ⟨a, vs, rfl, ex_t eF h1, by rw [dpa_len h2, tgs_len e, hn], h xs l σ F H vs Q e eF h2 hQ⟩
  | _ => cases e

def wipeE (env : List Sl) : List Nat → List Sl
  | [] => env
  | v :: vs => (wipeE env vs).set v .un
def wipeOk (env : List Sl) (vs : List Nat) : Bool := vs.all fun i => match env[i]? with
  | some s => s.fp.isEmpty
  | none => true
theorem wipeE_len (env : List Sl) : ∀ vs : List Nat, (wipeE env vs).length = env.length
  | [] => rfl
  | v :: vs => by rw [wipeE, List.length_set, wipeE_len env vs]
theorem wipe_get (σ : SS) (i : Nat) : ∀ vs : List Nat, (wipe σ vs)[i]? = if i ∈ vs then (σ[i]?.map fun _ => none) else σ[i]?
  | [] => by rw [if_neg (by simp)]; rfl
  | v :: vs => by
    show ((wipe σ vs).set v none)[i]? = _
    rw [List.getElem?_set]
    by_cases h : v = i
    · subst h
      rw [if_pos rfl, if_pos (List.mem_cons_self ..), wipe_length]
      by_cases hl : v < σ.length
      · rw [if_pos hl, List.getElem?_eq_getElem hl]; rfl
      · rw [if_neg hl, List.getElem?_eq_none (by omega)]; rfl
    · rw [if_neg h, wipe_get σ i vs]
      by_cases hm : i ∈ vs
      · rw [if_pos hm, if_pos (List.mem_cons_of_mem _ hm)]
      · rw [if_neg hm, if_neg fun z => by
          rcases List.mem_cons.mp z with z | z
          · exact h z.symm
          · exact hm z]
theorem wipeE_get (env : List Sl) (i : Nat) : ∀ vs : List Nat, (wipeE env vs)[i]? = if i ∈ vs then (env[i]?.map fun _ => .un) else env[i]?
  | [] => by rw [if_neg (by simp)]; rfl
  | v :: vs => by
    show ((wipeE env vs).set v .un)[i]? = _
    rw [List.getElem?_set]
    by_cases h : v = i
    · subst h
      rw [if_pos rfl, if_pos (List.mem_cons_self ..), wipeE_len]
      by_cases hl : v < env.length
      · rw [if_pos hl, List.getElem?_eq_getElem hl]; rfl
      · rw [if_neg hl, List.getElem?_eq_none (by omega)]; rfl
    · rw [if_neg h, wipeE_get env i vs]
      by_cases hm : i ∈ vs
      · rw [if_pos hm, if_pos (List.mem_cons_of_mem _ hm)]
      · rw [if_neg hm, if_neg fun z => by
          rcases List.mem_cons.mp z with z | z
          · exact h z.symm
          · exact hm z]
theorem wipe_set {σ : SS} {i : Nat} {x : Option V} {vs : List Nat} (hi : i ∈ vs) : wipe (σ.set i x) vs = wipe σ vs := by
  apply List.ext_getElem?
  intro j
  rw [wipe_get, wipe_get]
  by_cases h : j ∈ vs
  · rw [if_pos h, if_pos h, List.getElem?_set]
    by_cases e : i = j
    · subst e
      rw [if_pos rfl]
      by_cases hl : i < σ.length
      · rw [if_pos hl, List.getElem?_eq_getElem hl]; rfl
      · rw [if_neg hl, List.getElem?_eq_none (by omega)]
    · rw [if_neg e]
  · rw [if_neg h, if_neg h, List.getElem?_set, if_neg (fun z : i = j => h (by rw [← z]; exact hi))]
theorem wipe_wipe (σ : SS) (vs : List Nat) : wipe (wipe σ vs) vs = wipe σ vs := by
  apply List.ext_getElem?
  intro j
  rw [wipe_get, wipe_get]
  by_cases h : j ∈ vs
  · rw [if_pos h, if_pos h, Option.map_map]; rfl
  · rw [if_neg h, if_neg h]
theorem wipe_putsV {vs : List Nat} : ∀ {r : List (Nat × V)} {σ : SS}, (∀ q ∈ r, q.1 ∈ vs) → wipe (putsV σ r) vs = wipe σ vs
  | [], _, _ => rfl
  | (i, v) :: r, σ, h => by
    rw [putsV, wipe_putsV fun q hq => h q (List.mem_cons_of_mem _ hq)]
    exact wipe_set (h _ (List.mem_cons_self ..))
theorem own_wipe {vs : List Nat} {a : Addr} (h : Own (wipeE env vs) a) : Own env a := by
  obtain ⟨i, s, h1, h2⟩ := h
  rw [wipeE_get] at h1
  by_cases hm : i ∈ vs
  · rw [if_pos hm] at h1
    obtain ⟨t, _, e⟩ := Option.map_eq_some_iff.mp h1
    subst e
    cases h2
  · rw [if_neg hm] at h1
    exact ⟨i, s, h1, h2⟩
theorem own_wipe' {vs : List Nat} (ok : wipeOk env vs = true) {a : Addr} (h : Own env a) : Own (wipeE env vs) a := by
  obtain ⟨i, s, h1, h2⟩ := h
  refine ⟨i, s, ?_, h2⟩
  rw [wipeE_get]
  by_cases hm : i ∈ vs
  · have q := List.all_eq_true.mp ok i hm
    rw [h1] at q
    have q' : s.fp.isEmpty = true := q
    cases hs : s.fp with
    | nil => rw [hs] at h2; cases h2
    | cons x r => rw [hs] at q'; cases q'
  · rw [if_neg hm]; exact h1
/-- into a block -/
theorem St.wiped (st : St K g F H σ env) (vs : List Nat) : St K g F H (wipe σ vs) (wipeE env vs) where
  len := by rw [wipe_length, wipeE_len]; exact st.len
  sl := fun i s e => by
    rw [wipeE_get] at e
    by_cases hm : i ∈ vs
    · rw [if_pos hm] at e
      obtain ⟨t, _, e⟩ := Option.map_eq_some_iff.mp e
      subst e
      trivial
    · rw [if_neg hm] at e
      rw [wipe_get, if_neg hm]
      exact st.sl i s e
  nd := fun i j s t a ei ej h1 h2 => by
    rw [wipeE_get] at ei ej
    by_cases hi : i ∈ vs
    · rw [if_pos hi] at ei
      obtain ⟨_, _, e⟩ := Option.map_eq_some_iff.mp ei
      subst e
      cases h1
    · by_cases hj : j ∈ vs
      · rw [if_pos hj] at ej
        obtain ⟨_, _, e⟩ := Option.map_eq_some_iff.mp ej
        subst e
        cases h2
      · rw [if_neg hi] at ei
        rw [if_neg hj] at ej
        exact st.nd i j s t a ei ej h1 h2
  fr := fun a h => st.fr a (own_wipe h)
  ex := st.ex
  g1 := st.g1
  g2 := fun a h => st.g2 a (own_wipe h)
  g3 := st.g3
  g4 := st.g4
  g5 := st.g5
  g6 := st.g6
/-- out of a block -/
theorem St.unwiped {vs : List Nat} (st : St K g F H σ env) (ok : wipeOk env vs = true) (st' : St K g F' H' (wipe σ vs) (wipeE env vs)) (e : Ex F F') : St K g F' H' σ env where
  len := st.len
  sl := fun i s e1 => by
    by_cases hm : i ∈ vs
    · have q := List.all_eq_true.mp ok i hm
      rw [e1] at q
      have q' : s.fp.isEmpty = true := q
      refine slok_mono e (fun a ha => ?_) (st.sl i s e1)
      cases hs : s.fp with
      | nil => rw [hs] at ha; cases ha
      | cons x r => rw [hs] at q'; cases q'
    · have q := st'.sl i s (by rw [wipeE_get, if_neg hm]; exact e1)
      rw [wipe_get, if_neg hm] at q
      exact q
  nd := st.nd
  fr := fun a h => st'.fr a (own_wipe' ok h)
  ex := st'.ex
  g1 := st'.g1
  g2 := fun a h => st.g2 a h
  g3 := st'.g3
  g4 := st'.g4
  g5 := st'.g5
  g6 := st'.g6

/-! ### list comprehensions -/
abbrev BX (X : Cx) (scope : Scope) (s : Shared) (H : Hp) (C : Addr) (cl : List (Str × Addr)) (fp : List Addr) : Cx := X.blk s H scope (compEnvC scope cl C X.env) fp
def semEB (X : Cx) (scope : Scope) (e : Expr) : TE := fun σ H Q => ∀ s H0 C cl fp, semE (BX X scope s H0 C cl fp) e σ H Q
def semTB (X : Cx) (scope : Scope) : List Expr → TT
  | [] => tYes
  | c :: _ => fun σ H Q => ∀ s H0 C cl fp, semT (BX X scope s H0 C cl fp) c σ H Q
/-- the tests of a clause: none or one -/
def WTs (X : Cx) (g : G) (ifs : List Expr) (env : List Sl) (Φ : Bool → Prop) : Prop := match ifs with
  | [] => Φ true
  | c :: _ => WT X g c env Φ (fun _ => False)
theorem takesB {scope : Scope} {s : Shared} {H0 : Hp} {C : Addr} {cl : List (Str × Addr)} {fp : List Addr} : Takes (BX X scope s H0 C cl fp) (fun _ _ _ _ => False) := fun _ _ x => by
  obtain ⟨_, _, _, _, _, _, _, _, _, _, _, _, _, _, _, _, z⟩ := x
  exact z.elim
theorem hxF {W : WX} : HX X g env (fun _ => False) W σ := fun _ _ _ h => h.elim
/-- the state within a comprehension -/
def LJ (K : Frag) (g : G) (F1 : Hp) (σ : SS) (env : List Sl) (Pv : Nat → List PyData → Prop) (D : Addr) (i : Nat) (H : Hp) : Prop :=
  ∃ F acc avs, St K g F H σ env ∧ Ex F1 F ∧ H D = some (.lst avs) ∧ DpAll K F avs acc ∧ F D = none ∧ ¬ Own env D ∧ g.H0 D = none ∧ Pv i acc ∧ acc.length ≤ i
theorem lc_turn {scope : Scope} {ifs : List Expr} {elt : Expr} {t : TG} {A : PyData → Option (List (Nat × PyData))} {F1 : Hp} {vs : List Nat} {Pv : Nat → List PyData → Prop} {D : Addr} {i : Nat} {x : PyData} {v : V} {l : List (Nat × PyData)}
    (htd : TGd X.K t A) (hA : A x = some l) (hl : ∀ q ∈ l, q.1 ∈ vs ∧ q.1 < env.length) (hsz : i < sizeLine) (hv : Dp X.K F1 v x) (hJ : LJ X.K g F1 (wipe σ vs) (wipeE env vs) Pv D i H)
    (hb : ∀ acc, Pv i acc → ∀ (g' : G) s H0 C cl fp, WTs (BX X scope s H0 C cl fp) g' ifs (putsE (wipeE env vs) l) (fun b => (b = true → ∀ s H0 C cl fp, WE (BX X scope s H0 C cl fp) g' elt (putsE (wipeE env vs) l) (fun y z => z = true ∧ Pv (i + 1) (acc ++ [y])) (fun _ => False)) ∧ (b = false → Pv (i + 1) acc))) :
    t v (wipe σ vs) H fun σ2 H2 => wipe σ2 vs = wipe σ vs ∧ semTB X scope ifs σ2 H2 fun b H3 =>
      if b = true then semEB X scope elt σ2 H3 fun y H4 => ∃ acc, H4 D = some (.lst acc) ∧ acc.length < sizeLine ∧ LJ X.K g F1 (wipe σ vs) (wipeE env vs) Pv D (i + 1) (upd H4 D (.lst (acc ++ [y]))) else LJ X.K g F1 (wipe σ vs) (wipeE env vs) Pv D (i + 1) H3 := by
  obtain ⟨F, acc, avs, st, eF, hD, hd, fD, oD, gD, hp, hlen⟩ := hJ
  refine htd x l (wipe σ vs) F H v _ hA st.ex (dp_mono eF _ _ hv) fun r sr => ?_
  have hidx : ∀ q ∈ r, q.1 ∈ vs := setsP_idx sr fun q hq => (hl q hq).1
  refine ⟨by rw [wipe_putsV hidx]; exact wipe_wipe σ vs, ?_⟩
  -- the state within the turn, over a ground of its own
  have st1 : St X.K ⟨F, H, fps (wipeE env vs)⟩ F H (putsV (wipe σ vs) r) (putsE (wipeE env vs) l) := St.sets st.toSk.base sr fun q hq => by rw [wipeE_len]; exact (hl q hq).2
  have back : ∀ {F' H'}, St X.K ⟨F, H, fps (wipeE env vs)⟩ F' H' (putsV (wipe σ vs) r) (putsE (wipeE env vs) l) → Ex F F' → St X.K ⟨F, H, fps (wipeE env vs)⟩ F' H' (wipe σ vs) (wipeE env vs) := fun {F' H'} s' e' =>
    { len := by rw [wipe_length, wipeE_len]; have := s'.len; rw [putsE_len, wipeE_len] at this; rw [← this, putsV_len, wipe_length]
      sl := fun k s e => by
        by_cases hm : k ∈ vs
        · rw [wipeE_get, if_pos hm] at e
          obtain ⟨_, _, e⟩ := Option.map_eq_some_iff.mp e
          subst e
          trivial
        · have e2 : (putsE (wipeE env vs) l)[k]? = some s := by rw [putsE_get (i := k) fun q hq (z : q.1 = k) => hm (by rw [← z]; exact (hl q hq).1)]; exact e
          have q := s'.sl k s e2
          rw [putsV_get (i := k) fun q hq (z : q.1 = k) => hm (by rw [← z]; exact hidx q hq)] at q
          exact q
      nd := st.nd
      fr := fun a h => by
        obtain ⟨k, s, h1, h2⟩ := h
        by_cases hm : k ∈ vs
        · rw [wipeE_get, if_pos hm] at h1
          obtain ⟨_, _, e⟩ := Option.map_eq_some_iff.mp h1
          subst e
          cases h2
        · exact s'.fr a ⟨k, s, by rw [putsE_get (i := k) fun q hq (z : q.1 = k) => hm (by rw [← z]; exact (hl q hq).1)]; exact h1, h2⟩
      ex := s'.ex
      g1 := s'.g1
      g2 := fun a h => .inr (own_fps.mp h)
      g3 := s'.g3
      g4 := s'.g4
      g5 := s'.g5
      g6 := s'.g6 }
  have keepD : ∀ {F' H'}, St X.K ⟨F, H, fps (wipeE env vs)⟩ F' H' (putsV (wipe σ vs) r) (putsE (wipeE env vs) l) → H' D = some (.lst avs) ∧ F' D = none := fun {F' H'} s' => by
    refine ⟨s'.g1 D _ hD fun z => oD (own_fps.mpr z), ?_⟩
    cases q : F' D with
    | none => rfl
    | some u =>
      rcases s'.g4 D (by rw [q]; intro z; cases z) with z | z
      · exact absurd fD z
      · have z' : H D = none := z
        rw [hD] at z'; cases z'
  have tests : ∀ (Q : Bool → Hp → Prop), (∀ b F' H', ((b = true → ∀ s H0 C cl fp, WE (BX X scope s H0 C cl fp) ⟨F, H, fps (wipeE env vs)⟩ elt (putsE (wipeE env vs) l) (fun y z => z = true ∧ Pv (i + 1) (acc ++ [y])) (fun _ => False)) ∧ (b = false → Pv (i + 1) acc)) →
      St X.K ⟨F, H, fps (wipeE env vs)⟩ F' H' (putsV (wipe σ vs) r) (putsE (wipeE env vs) l) → Ex F F' → Q b H') → semTB X scope ifs (putsV (wipe σ vs) r) H Q := fun Q hQ => by
    cases ifs with
    | nil =>
      exact hQ true F H ⟨fun _ s H0 C cl fp => (hb acc hp _ (X.s_0) H0 C cl fp).1 rfl s H0 C cl fp, fun z => by cases z⟩ st1 (Ex.refl F)
    | cons c cs =>
      intro s H0 C cl fp
      refine hb acc hp _ s H0 C cl fp _ takesB _ F H st1 hxF Q fun b F' H' hbb s' e' => hQ b F' H' hbb s' e'
  refine tests _ fun b F' H' ⟨h1, h2⟩ s' e' => ?_
  cases b with
  | true =>
    rw [if_pos rfl]
    intro s H0 C cl fp
    refine h1 rfl s H0 C cl fp _ takesB _ F' H' s' hxF _ fun y z w F2 H2 ⟨hz, hp2⟩ s2 e2 rd => ?_
    subst hz
    obtain ⟨hD2, fD2⟩ := keepD s2
    refine ⟨avs, hD2, by rw [dpa_len hd]; omega, F2, acc ++ [y], avs ++ [w], ?_, eF.trans (e'.trans e2), upd_same, ?_, fD2, oD, gD, hp2, by rw [List.length_append, List.length_singleton]; omega⟩
    · have s3 := st.rebase (back s2 (e'.trans e2)) fun a h => h
      exact s3.untracked fD2 oD gD
    · exact dpa_app (dpa_mono (e'.trans e2) _ _ hd) (dpa_one rd)
  | false =>
    rw [if_neg Bool.false_ne_true]
    obtain ⟨hD2, fD2⟩ := keepD s'
    exact ⟨F', acc, avs, st.rebase (back s' e') fun a h => h, eF.trans e', hD2, dpa_mono e' _ _ hd, fD2, oD, gD, h2 rfl, by omega⟩

/-- the state is one of the model's too -/
def tI (X : Cx) (t : TE) : TE := fun σ H Q => t σ H fun v H' => (∃ pins s, Inv X pins σ H' s) → Q v H'
theorem peI (e : Expr) : PE X e (tI X (semE X e)) := ⟨fun pins s σ H Q I h => thn (h.run pins s I) fun u s' ⟨v, H', I', r, q⟩ => ⟨v, H', I', r, q ⟨pins, s', I'⟩⟩⟩
theorem ptsB {scope : Scope} {ifs : List Expr} (h1 : ifs.length ≤ 1) (s : Shared) (H0 : Hp) (C : Addr) (cl : List (Str × Addr)) (fp : List Addr) : PTs (BX X scope s H0 C cl fp) ifs (semTB X scope ifs) := by
  match ifs, h1 with
  | [], _ => exact pts_nil
  | [c], _ => exact pts_one ⟨fun pins s2 σ H Q I h => (h s H0 C cl fp).run pins s2 I⟩
theorem peB {scope : Scope} {e : Expr} (s : Shared) (H0 : Hp) (C : Addr) (cl : List (Str × Addr)) (fp : List Addr) : PE (BX X scope s H0 C cl fp) e (semEB X scope e) := ⟨fun pins s2 σ H Q I h => (h s H0 C cl fp).run pins s2 I⟩
/-- one turn's wish -/
def LT (X : Cx) (env : List Sl) (scope : Scope) (ifs : List Expr) (elt : Expr) (vs : List Nat) (A : PyData → Option (List (Nat × PyData))) (Pv : Nat → List PyData → Prop) (i : Nat) (x : PyData) : Prop :=
  ∃ l, A x = some l ∧ (l.all fun q => vs.elem q.1 && Nat.blt q.1 env.length) = true ∧ ∀ acc, Pv i acc → ∀ (g' : G) s H0 C cl fp, WTs (BX X scope s H0 C cl fp) g' ifs (putsE (wipeE env vs) l) (fun b =>
    (b = true → ∀ s H0 C cl fp, WE (BX X scope s H0 C cl fp) g' elt (putsE (wipeE env vs) l) (fun y z => z = true ∧ Pv (i + 1) (acc ++ [y])) (fun _ => False)) ∧ (b = false → Pv (i + 1) acc))
theorem lt_idx {vs : List Nat} {l : List (Nat × PyData)} {n : Nat} (h : (l.all fun q => vs.elem q.1 && Nat.blt q.1 n) = true) : ∀ q ∈ l, q.1 ∈ vs ∧ q.1 < n := fun q hq => by
  have h1 := Bool.and_eq_true_iff.mp (List.all_eq_true.mp h q hq)
  exact ⟨List.elem_iff.mp h1.1, Nat.le_of_ble_eq_true h1.2⟩
def WNt (X : Cx) (g : G) (t : TE) (env : List Sl) (Φ : List PyData → Prop) (Ψ : Exc → Prop) : Prop :=
  ∀ (W : WX), Takes X W → ∀ (σ : SS) (F H : Hp), St X.K g F H σ env → HX X g env Ψ W σ →
    ∀ Q : VK, (∀ ds v F' H', Φ ds → St X.K g F' H' σ env → Ex F F' → NewL X.K g F' H' env v ds → Q v H') → t σ H Q
section
variable {tg iter elt : Expr} {ifs : List Expr} {scope : Scope} {own : List (Str × Nat)} {t : TG} {A : PyData → Option (List (Nat × PyData))} {Φ : List PyData → Prop}
/-- [elt for tg in a list] -/
theorem nt_lcL (htd : TGd X.K t A) (hwo : wipeOk env (own.map (·.2)) = true)
    (hi : WE X g iter env (fun d z => z = true ∧ ∃ (xs : List PyData) (Pv : Nat → List PyData → Prop), d = .list xs ∧ Pv 0 [] ∧ (∀ i x, xs[i]? = some x → LT X env scope ifs elt (own.map (·.2)) A Pv i x) ∧ ∀ acc, Pv xs.length acc → Φ acc) Ψ) : WNt X g (tLc (iList X.K (tI X (semE X iter))) t (semTB X scope ifs) (semEB X scope elt) (own.map (·.2))) env Φ Ψ := fun W tk σ F H st hx Q hQ => by
  refine hi W tk σ F H st hx _ fun d z v F1 H1 ⟨hz, xs, Pv, hd, p0, pt, pe⟩ s1 e1 rd inv => ?_
  subst hz hd
  obtain ⟨a, vs, rfl, hsq, hda⟩ := dp_lst rd
  obtain ⟨pins, sh, I⟩ := inv
  have hlen : vs.length ≤ sizeLine := by
    obtain ⟨_, _, _, hz⟩ := I.list (ex_l s1.ex hsq)
    exact hz
  refine ⟨a, rfl, ⟨vs, ex_l s1.ex hsq⟩, fun D hD => ?_⟩
  have st2 : St X.K g F1 (upd H1 D (.lst [])) (wipe σ (own.map (·.2))) (wipeE env (own.map (·.2))) := (s1.alloc hD).wiped _
  refine lc_list (xs := vs) (LJ X.K g F1 (wipe σ (own.map (·.2))) (wipeE env (own.map (·.2))) Pv D) ⟨F1, [], [], st2, Ex.refl F1, upd_same, .nil, s1.ex.none hD, fun z => s1.there (own_wipe z) hD, s1.h0 hD, p0, Nat.le_refl 0⟩ (fun i H2 _ ⟨F2, _, _, s3, e3, _⟩ => ex_l s3.ex (ex_l e3 hsq)) (fun i x H2 hx2 hJ => ?_) (fun H2 ⟨F2, acc, avs, s3, e3, hD3, hd3, fD, oD, gD, hp, _⟩ => ?_)
  · obtain ⟨d, hd1, hd2⟩ := dpa_of hda hx2
    obtain ⟨l, hA, hl, hb⟩ := pt i d hd1
    exact lc_turn htd hA (lt_idx hl) (by have := (List.getElem?_eq_some_iff.mp hx2).1; omega) hd2 hJ hb
  · rw [dpa_len hda] at hp
    exact hQ acc (.ref D) F2 H2 (pe acc hp) (s1.unwiped hwo s3 e3) (e1.trans e3) ⟨D, avs, rfl, hD3, hd3, fD, fun z => s1.there z hD, gD⟩
theorem wn_lcL (hc : X.calm = true) (hN : X.N.Nodup) (ok : BlkOk X.N X.env.scope scope own) (hpg : ∀ s H C cl fp, PG (BX X scope s H C cl fp) tg t) (htd : TGd X.K t A) (h1 : ifs.length ≤ 1) (hwo : wipeOk env (own.map (·.2)) = true)
    (hi : WE X g iter env (fun d z => z = true ∧ ∃ (xs : List PyData) (Pv : Nat → List PyData → Prop), d = .list xs ∧ Pv 0 [] ∧ (∀ i x, xs[i]? = some x → LT X env scope ifs elt (own.map (·.2)) A Pv i x) ∧ ∀ acc, Pv xs.length acc → Φ acc) Ψ)
    (hs : ∀ x, foldedSetIterable iter X.env x = pure x := by intro _; rfl) : WN X g (.ListComp elt [⟨tg, iter, ifs, 0⟩] scope pos) env Φ Ψ := fun W tk σ F H st hx Q hQ =>
  semE_of (pe_lc hc hN (pi_list (peI iter)) ok hpg (ptsB h1) peB hs) (nt_lcL htd hwo hi W tk σ F H st hx Q hQ)
/-- .. over a tuple -/
theorem nt_lcT (htd : TGd X.K t A) (hwo : wipeOk env (own.map (·.2)) = true)
    (hi : WE X g iter env (fun d z => z = true ∧ ∃ (xs : List PyData) (Pv : Nat → List PyData → Prop), d = .tuple xs ∧ Pv 0 [] ∧ (∀ i x, xs[i]? = some x → LT X env scope ifs elt (own.map (·.2)) A Pv i x) ∧ ∀ acc, Pv xs.length acc → Φ acc) Ψ) : WNt X g (tLc (iTup X.K (tI X (semE X iter))) t (semTB X scope ifs) (semEB X scope elt) (own.map (·.2))) env Φ Ψ := fun W tk σ F H st hx Q hQ => by
  refine hi W tk σ F H st hx _ fun d z v F1 H1 ⟨hz, xs, Pv, hd, p0, pt, pe⟩ s1 e1 rd inv => ?_
  subst hz hd
  obtain ⟨a, vs, rfl, hsq, hda⟩ := dp_tup rd
  obtain ⟨pins, sh, I⟩ := inv
  have hlen : vs.length ≤ sizeLine := by
    obtain ⟨_, _, _, hz⟩ := I.tuple (ex_t s1.ex hsq)
    exact hz
  refine ⟨a, rfl, ⟨vs, ex_t s1.ex hsq⟩, fun D hD => ?_⟩
  have st2 : St X.K g F1 (upd H1 D (.lst [])) (wipe σ (own.map (·.2))) (wipeE env (own.map (·.2))) := (s1.alloc hD).wiped _
  refine lc_tup (xs := vs) (LJ X.K g F1 (wipe σ (own.map (·.2))) (wipeE env (own.map (·.2))) Pv D) ⟨F1, [], [], st2, Ex.refl F1, upd_same, .nil, s1.ex.none hD, fun z => s1.there (own_wipe z) hD, s1.h0 hD, p0, Nat.le_refl 0⟩ (fun i H2 _ ⟨F2, _, _, s3, e3, _⟩ => ex_t s3.ex (ex_t e3 hsq)) (fun i x H2 hx2 hJ => ?_) (fun H2 ⟨F2, acc, avs, s3, e3, hD3, hd3, fD, oD, gD, hp, _⟩ => ?_)
  · obtain ⟨d, hd1, hd2⟩ := dpa_of hda hx2
    obtain ⟨l, hA, hl, hb⟩ := pt i d hd1
    exact lc_turn htd hA (lt_idx hl) (by have := (List.getElem?_eq_some_iff.mp hx2).1; omega) hd2 hJ hb
  · rw [dpa_len hda] at hp
    exact hQ acc (.ref D) F2 H2 (pe acc hp) (s1.unwiped hwo s3 e3) (e1.trans e3) ⟨D, avs, rfl, hD3, hd3, fD, fun z => s1.there z hD, gD⟩
theorem wn_lcT (hc : X.calm = true) (hN : X.N.Nodup) (ok : BlkOk X.N X.env.scope scope own) (hpg : ∀ s H C cl fp, PG (BX X scope s H C cl fp) tg t) (htd : TGd X.K t A) (h1 : ifs.length ≤ 1) (hwo : wipeOk env (own.map (·.2)) = true)
    (hi : WE X g iter env (fun d z => z = true ∧ ∃ (xs : List PyData) (Pv : Nat → List PyData → Prop), d = .tuple xs ∧ Pv 0 [] ∧ (∀ i x, xs[i]? = some x → LT X env scope ifs elt (own.map (·.2)) A Pv i x) ∧ ∀ acc, Pv xs.length acc → Φ acc) Ψ)
    (hs : ∀ x, foldedSetIterable iter X.env x = pure x := by intro _; rfl) : WN X g (.ListComp elt [⟨tg, iter, ifs, 0⟩] scope pos) env Φ Ψ := fun W tk σ F H st hx Q hQ =>
  semE_of (pe_lc hc hN (pi_tup (peI iter)) ok hpg (ptsB h1) peB hs) (nt_lcT htd hwo hi W tk σ F H st hx Q hQ)
/-- .. over range(n) -/
theorem nt_lcR1 (htd : TGd X.K t A) (hwo : wipeOk env (own.map (·.2)) = true)
    (hi : WE X g a env (fun d z => ∃ (n : Int) (Pv : Nat → List PyData → Prop), d = .int n ∧ (-1000000 ≤ n ∧ n ≤ 16777216) ∧ Pv 0 [] ∧ (∀ i : Nat, (i : Int) < n → LT X env scope ifs elt (own.map (·.2)) A Pv i (.int i)) ∧ ∀ acc, Pv n.toNat acc → Φ acc) Ψ) : WNt X g (tLc (iRng1 (tCons (semE X a) tNil)) t (semTB X scope ifs) (semEB X scope elt) (own.map (·.2))) env Φ Ψ := fun W tk σ F H st hx Q hQ => by
  have hsl := sizeLine_eq
  refine hi W tk σ F H st hx _ fun d z v F1 H1 ⟨n, Pv, hd, hn, p0, pt, pe⟩ s1 e1 rd => ?_
  subst hd
  rw [rd_int rd]
  refine ⟨n, rfl, by omega, by omega, fun D hD => ?_⟩
  have st2 : St X.K g F1 (upd H1 D (.lst [])) (wipe σ (own.map (·.2))) (wipeE env (own.map (·.2))) := (s1.alloc hD).wiped _
  refine lc_range (lo := 0) (n := n.toNat) (LJ X.K g F1 (wipe σ (own.map (·.2))) (wipeE env (own.map (·.2))) Pv D) ⟨F1, [], [], st2, Ex.refl F1, upd_same, .nil, s1.ex.none hD, fun z => s1.there (own_wipe z) hD, s1.h0 hD, p0, Nat.le_refl 0⟩ (fun i H2 hi2 hJ => ?_) (fun H2 ⟨F2, acc, avs, s3, e3, hD3, hd3, fD, oD, gD, hp, _⟩ => ?_)
  · obtain ⟨l, hA, hl, hb⟩ := pt i (by omega)
    rw [Int.zero_add]
    exact lc_turn htd hA (lt_idx hl) (by omega) (.int _) hJ hb
  · exact hQ acc (.ref D) F2 H2 (pe acc hp) (s1.unwiped hwo s3 e3) (e1.trans e3) ⟨D, avs, rfl, hD3, hd3, fD, fun z => s1.there z hD, gD⟩
theorem wn_lcR1 {p1 p2 : Pos} (hm : X.mg "range" = none) (hc : X.calm = true) (hN : X.N.Nodup) (ok : BlkOk X.N X.env.scope scope own) (hpg : ∀ s H C cl fp, PG (BX X scope s H C cl fp) tg t) (htd : TGd X.K t A) (h1 : ifs.length ≤ 1) (hwo : wipeOk env (own.map (·.2)) = true)
    (hi : WE X g a env (fun d z => ∃ (n : Int) (Pv : Nat → List PyData → Prop), d = .int n ∧ (-1000000 ≤ n ∧ n ≤ 16777216) ∧ Pv 0 [] ∧ (∀ i : Nat, (i : Int) < n → LT X env scope ifs elt (own.map (·.2)) A Pv i (.int i)) ∧ ∀ acc, Pv n.toNat acc → Φ acc) Ψ)
    (hs : ∀ x, foldedSetIterable (.Call (.Name "range" p1) [a] [] p2) X.env x = pure x := by intro _; rfl) (hg : Gl X "range" := by rfl) (he : starEach [a] X.env = [(false, eval a X.env)] := by rfl) :
    WN X g (.ListComp elt [⟨tg, .Call (.Name "range" p1) [a] [] p2, ifs, 0⟩] scope pos) env Φ Ψ := fun W tk σ F H st hx Q hQ =>
  semE_of (pe_lc hc hN (pi_range1 hg hm (pa_cons (peS a) pa_nil (by rw [he]; rfl)) he) ok hpg (ptsB h1) peB hs) (nt_lcR1 htd hwo hi W tk σ F H st hx Q hQ)
/-- .. over range(lo, hi) -/
theorem nt_lcR2 (htd : TGd X.K t A) (hwo : wipeOk env (own.map (·.2)) = true)
    (hi : WE X g a env (fun d z => ∃ lo, d = .int lo ∧ WE X g b env (fun d z => ∃ (n : Int) (Pv : Nat → List PyData → Prop), d = .int n ∧ (-1000000 ≤ lo ∧ lo ≤ 1000000 ∧ -1000000 ≤ n ∧ n ≤ 1000000) ∧ Pv 0 [] ∧ (∀ i : Nat, lo + (i : Int) < n → LT X env scope ifs elt (own.map (·.2)) A Pv i (.int (lo + i))) ∧ ∀ acc, Pv (n - lo).toNat acc → Φ acc) Ψ) Ψ) : WNt X g (tLc (iRng2 (tCons (semE X a) (tCons (semE X b) tNil))) t (semTB X scope ifs) (semEB X scope elt) (own.map (·.2))) env Φ Ψ := fun W tk σ F H st hx Q hQ => by
  have hsl := sizeLine_eq
  refine hi W tk σ F H st hx _ fun d0 z0 v0 F0 H0 ⟨lo, hd0, hi2⟩ s0 e0 rd0 => ?_
  refine hi2 W tk σ F0 H0 s0 hx _ fun d z v F1 H1 ⟨n, Pv, hd, hn, p0, pt, pe⟩ s1 e1 rd => ?_
  subst hd hd0
  rw [rd_int rd, rd_int rd0]
  refine ⟨lo, n, rfl, ⟨by omega, by omega, by omega, by omega⟩, fun D hD => ?_⟩
  have st2 : St X.K g F1 (upd H1 D (.lst [])) (wipe σ (own.map (·.2))) (wipeE env (own.map (·.2))) := (s1.alloc hD).wiped _
  refine lc_range (lo := lo) (n := (n - lo).toNat) (LJ X.K g F1 (wipe σ (own.map (·.2))) (wipeE env (own.map (·.2))) Pv D) ⟨F1, [], [], st2, Ex.refl F1, upd_same, .nil, s1.ex.none hD, fun z => s1.there (own_wipe z) hD, s1.h0 hD, p0, Nat.le_refl 0⟩ (fun i H2 hi2 hJ => ?_) (fun H2 ⟨F2, acc, avs, s3, e3, hD3, hd3, fD, oD, gD, hp, _⟩ => ?_)
  · obtain ⟨l, hA, hl, hb⟩ := pt i (by omega)
    exact lc_turn htd hA (lt_idx hl) (by omega) (.int _) hJ hb
  · exact hQ acc (.ref D) F2 H2 (pe acc hp) (s1.unwiped hwo s3 e3) ((e0.trans e1).trans e3) ⟨D, avs, rfl, hD3, hd3, fD, fun z => s1.there z hD, gD⟩
theorem wn_lcR2 {p1 p2 : Pos} (hm : X.mg "range" = none) (hc : X.calm = true) (hN : X.N.Nodup) (ok : BlkOk X.N X.env.scope scope own) (hpg : ∀ s H C cl fp, PG (BX X scope s H C cl fp) tg t) (htd : TGd X.K t A) (h1 : ifs.length ≤ 1) (hwo : wipeOk env (own.map (·.2)) = true)
    (hi : WE X g a env (fun d z => ∃ lo, d = .int lo ∧ WE X g b env (fun d z => ∃ (n : Int) (Pv : Nat → List PyData → Prop), d = .int n ∧ (-1000000 ≤ lo ∧ lo ≤ 1000000 ∧ -1000000 ≤ n ∧ n ≤ 1000000) ∧ Pv 0 [] ∧ (∀ i : Nat, lo + (i : Int) < n → LT X env scope ifs elt (own.map (·.2)) A Pv i (.int (lo + i))) ∧ ∀ acc, Pv (n - lo).toNat acc → Φ acc) Ψ) Ψ)
    (hs : ∀ x, foldedSetIterable (.Call (.Name "range" p1) [a, b] [] p2) X.env x = pure x := by intro _; rfl) (hg : Gl X "range" := by rfl) (he : starEach [a, b] X.env = [(false, eval a X.env), (false, eval b X.env)] := by rfl) (he2 : starEach [b] X.env = [(false, eval b X.env)] := by rfl) :
    WN X g (.ListComp elt [⟨tg, .Call (.Name "range" p1) [a, b] [] p2, ifs, 0⟩] scope pos) env Φ Ψ := fun W tk σ F H st hx Q hQ =>
  semE_of (pe_lc hc hN (pi_range2 hg hm (pa_cons (peS a) (pa_cons (peS b) pa_nil (by rw [he2]; rfl)) (by rw [he, he2])) he he2) ok hpg (ptsB h1) peB hs) (nt_lcR2 htd hwo hi W tk σ F H st hx Q hQ)
end
end
end TL

namespace TL
open PySem PySem.Spec PyProof.Rows L2

/-- what is wanted behind a statement -/
structure Po where
  nx : List Sl → Prop
  rt : PR → List Sl → Prop
  bk : List Sl → Prop := fun _ => False
  ct : List Sl → Prop := fun _ => False
  ex : Exc → List Sl → Prop
/-- the same, another end -/
abbrev Po.thn (P : Po) (q : List Sl → Prop) : Po := ⟨q, P.rt, P.bk, P.ct, P.ex⟩
abbrev Po.turn (P : Po) (q : List Sl → Prop) : Po := ⟨q, P.rt, P.nx, q, P.ex⟩
abbrev Po.exn (P : Po) (q : Exc → List Sl → Prop) : Po := ⟨P.nx, P.rt, P.bk, P.ct, q⟩
def RtOk (K : Frag) (g : G) (v : V) (σ' : SS) (F' H' : Hp) (env' : List Sl) : PR → Prop
  | .rd d => Dp K F' v d
  | .nl ds => NewL K g F' H' env' v ds
  | .ar i => σ'[i]? = some (some v) ∧ ∃ s, env'[i]? = some s ∧ s.fp ≠ []
structure DOk (X : Cx) (g : G) (F : Hp) (P : Po) (D : Ends) : Prop where
  nx : ∀ env' σ' F' H', P.nx env' → St X.K g F' H' σ' env' → Ex F F' → D.nx σ' H'
  rt : ∀ r v env' σ' F' H', P.rt r env' → St X.K g F' H' σ' env' → RtOk X.K g v σ' F' H' env' r → D.rt v H'
  bk : ∀ env' σ' F' H', P.bk env' → St X.K g F' H' σ' env' → Ex F F' → D.bk σ' H'
  ct : ∀ env' σ' F' H', P.ct env' → St X.K g F' H' σ' env' → Ex F F' → D.ct σ' H'
def XOk (X : Cx) (g : G) (P : Po) (W : WX) : Prop := ∀ c env' σ' F' H', P.ex c env' → St X.K g F' H' σ' env' → ExcW X.K W σ' H' c
structure SemP (X : Cx) (st : Stmt) (D : Ends) (σ : SS) (H : Hp) : Prop where
  run : ∀ (pins : List (Addr × Obj)) (s : Shared), Inv X pins σ H s → wpAny (model X.prog X.w) X.A (exec st X.env) (SP X pins D) X.xe s
def semP (X : Cx) (st : Stmt) : TS := fun D σ H => SemP X st D σ H
def WS (X : Cx) (g : G) (sts : List Stmt) (env : List Sl) (P : Po) : Prop :=
  ∀ (W : WX), Takes X W → XOk X g P W → ∀ (σ : SS) (F H : Hp), St X.K g F H σ env → ∀ D : Ends, DOk X g F P D → semS X sts D σ H
def W1 (X : Cx) (g : G) (st : Stmt) (env : List Sl) (P : Po) : Prop :=
  ∀ (W : WX), Takes X W → XOk X g P W → ∀ (σ : SS) (F H : Hp), St X.K g F H σ env → ∀ D : Ends, DOk X g F P D → semP X st D σ H

section
variable {X : Cx} {g : G} {env env' : List Sl} {P : Po} {pos p : Pos} {a b c e : Expr} {es : List Expr} {st : Stmt} {rest body orelse : List Stmt} {K : Frag} {F F' H H' : Hp} {σ σ' : SS} {D : Ends} {W : WX}
theorem psP (st : Stmt) : PS X st (semP X st) := ⟨fun pins s _ _ _ I h => h.run pins s I⟩
theorem semP_of {t : TS} (h : PS X st t) (q : t D σ H) : semP X st D σ H := ⟨fun pins s I => h.run pins s σ H D I q⟩
theorem DOk.mono (h : DOk X g F P D) (e : Ex F F') : DOk X g F' P D :=
  ⟨fun a b c d h1 h2 h3 => h.nx a b c d h1 h2 (e.trans h3), h.rt, fun a b c d h1 h2 h3 => h.bk a b c d h1 h2 (e.trans h3), fun a b c d h1 h2 h3 => h.ct a b c d h1 h2 (e.trans h3)⟩
theorem XOk.hx (h : XOk X g P W) (env : List Sl) (σ : SS) : HX X g env (fun c => P.ex c env) W σ := fun c F' H' hc s => h c env σ F' H' hc s
theorem ws_nil (h : P.nx env) : WS X g [] env P := fun W tk hx σ F H st D hD => semS_of pss_nil (hD.nx env σ F H h st (Ex.refl F))
theorem ws_cons (h : W1 X g st env (P.thn fun env' => WS X g rest env' P)) : WS X g (st :: rest) env P := fun W tk hx σ F H s0 D hD => by
  refine semS_of (pss_cons (psP st) (pssS rest)) ?_
  refine h W tk hx σ F H s0 _ ⟨fun env' σ' F' H' hw s' e' => ?_, hD.rt, hD.bk, hD.ct⟩
  exact hw W tk hx σ' F' H' s' D (hD.mono e')
theorem WS.mono {P' : Po} (h : WS X g rest env P) (h1 : ∀ e, P.nx e → P'.nx e) (h2 : ∀ r e, P.rt r e → P'.rt r e) (h3 : ∀ e, P.bk e → P'.bk e) (h4 : ∀ e, P.ct e → P'.ct e) (h5 : ∀ c e, P.ex c e → P'.ex c e) : WS X g rest env P' :=
  fun W tk hx σ F H st D hD => h W tk (fun c e σ' F' H' hc => hx c e σ' F' H' (h5 c e hc)) σ F H st D
    ⟨fun e σ' F' H' q => hD.nx e σ' F' H' (h1 e q), fun r v e σ' F' H' q => hD.rt r v e σ' F' H' (h2 r e q), fun e σ' F' H' q => hD.bk e σ' F' H' (h3 e q), fun e σ' F' H' q => hD.ct e σ' F' H' (h4 e q)⟩

/-! ### simple statements -/
theorem ltB {n m : Nat} (h : Nat.blt n m = true) : n < m := Nat.le_of_ble_eq_true h
/-- x = e -/
theorem w1_set (i : Nat) {x : Str} {pos' : Pos} (hN : X.N.Nodup) (h : WE X g e env (fun d z => z = true ∧ P.nx (env.set i (.d d))) (fun c => P.ex c env)) (hi : X.N[i]? = some x := by rfl) (hx : Loc X.env.scope x := by first | exact Or.inl rfl | exact Or.inr rfl) (hl : Nat.blt i env.length = true := by rfl)
    (hs : swapsWith e (some (.Name x pos')) pos.line X.env = pure false := by rfl) (hf : X.fn x = true ∨ X.env.scope.names.lookup x = some .local := by first | exact .inl rfl | exact .inr rfl) : W1 X g (.Assign [.Name x pos'] e pos) env P := fun W tk hx2 σ F H s0 D hD => by
  refine semP_of (ps_set hN hi hx (peS e) hs hf) ?_
  refine h W tk σ F H s0 (hx2.hx env σ) _ fun d z v F' H' ⟨hz, hp⟩ s' e' r' => ?_
  subst hz
  exact hD.nx _ _ F' H' hp (s'.setD (ltB hl) r') e'
/-- x = e, a new list that x alone holds -/
theorem w1_setN (i : Nat) {x : Str} {pos' : Pos} (hN : X.N.Nodup) (h : WN X g e env (fun ds => ∀ a, a ∉ g.M → P.nx (env.set i (.ol a ds))) (fun c => P.ex c env)) (hi : X.N[i]? = some x := by rfl) (hx : Loc X.env.scope x := by first | exact Or.inl rfl | exact Or.inr rfl) (hl : Nat.blt i env.length = true := by rfl)
    (hs : swapsWith e (some (.Name x pos')) pos.line X.env = pure false := by rfl) (hf : X.fn x = true ∨ X.env.scope.names.lookup x = some .local := by first | exact .inl rfl | exact .inr rfl) : W1 X g (.Assign [.Name x pos'] e pos) env P := fun W tk hx2 σ F H s0 D hD => by
  refine semP_of (ps_set hN hi hx (peS e) hs hf) ?_
  refine h W tk σ F H s0 (hx2.hx env σ) _ fun ds v F' H' hp s' e' ⟨q, vs, hv, h1, h2, h3, h4, h5⟩ => ?_
  subst hv
  exact hD.nx _ _ F' H' (hp q fun m => s'.g6 q m h5) (s'.setL (ltB hl) h1 h2 h3 h4 h5) e'
/-- x = [..] on one line -/
theorem w1_setLc (i : Nat) {y : Str} {py : Pos} {elt tg iter : Expr} {ifs : List Expr} {scope : Scope} {own : List (Str × Nat)} {wi : TI} {t : TG} (hc : X.calm = true) (hN : X.N.Nodup) (hi : PI X tg iter wi) (ok : BlkOk X.N X.env.scope scope own) (hpg : ∀ s H C cl fp, PG (BX X scope s H C cl fp) tg t) (h1 : ifs.length ≤ 1)
    (h : WNt X g (tLc wi t (semTB X scope ifs) (semEB X scope elt) (own.map (·.2))) env (fun ds => P.nx (env.set i (.d (.list ds)))) (fun c => P.ex c env))
    (hy : X.N[i]? = some y := by rfl) (hyl : X.env.scope.names.lookup y = some .local := by rfl) (hl : Nat.blt i env.length = true := by rfl)
    (hsw : swapsWith (.ListComp elt [⟨tg, iter, ifs, 0⟩] scope pos) (some (.Name y py)) p.line X.env = pure true := by exact sw_true rfl rfl rfl (by decide +kernel)) (hs : ∀ x, foldedSetIterable iter X.env x = pure x := by intro _; rfl) :
    W1 X g (.Assign [.Name y py] (.ListComp elt [⟨tg, iter, ifs, 0⟩] scope pos) p) env P := fun W tk hx2 σ F H s0 D hD => by
  refine semP_of (ps_setLc hc hN hy hyl hsw hi ok hpg (ptsB h1) peB hs) ?_
  refine h W tk σ F H s0 (hx2.hx env σ) _ fun ds v F' H' hp s' e' ⟨q, vs, hv, h1, h2, h3, h4, h5⟩ => ?_
  subst hv
  have e2 := Ex.new (o := .lst vs) h3
  exact hD.nx _ _ _ H' hp ((s'.freeze h1 h3 h4 h5).setD (ltB hl) (.lst (SqL.of upd_same) (dpa_mono e2 _ _ h2))) (e'.trans e2)
theorem w1_setLcN (i : Nat) {y : Str} {py : Pos} {elt tg iter : Expr} {ifs : List Expr} {scope : Scope} {own : List (Str × Nat)} {wi : TI} {t : TG} (hc : X.calm = true) (hN : X.N.Nodup) (hi : PI X tg iter wi) (ok : BlkOk X.N X.env.scope scope own) (hpg : ∀ s H C cl fp, PG (BX X scope s H C cl fp) tg t) (h1 : ifs.length ≤ 1)
    (h : WNt X g (tLc wi t (semTB X scope ifs) (semEB X scope elt) (own.map (·.2))) env (fun ds => ∀ a, a ∉ g.M → P.nx (env.set i (.ol a ds))) (fun c => P.ex c env))
    (hy : X.N[i]? = some y := by rfl) (hyl : X.env.scope.names.lookup y = some .local := by rfl) (hl : Nat.blt i env.length = true := by rfl)
    (hsw : swapsWith (.ListComp elt [⟨tg, iter, ifs, 0⟩] scope pos) (some (.Name y py)) p.line X.env = pure true := by exact sw_true rfl rfl rfl (by decide +kernel)) (hs : ∀ x, foldedSetIterable iter X.env x = pure x := by intro _; rfl) :
    W1 X g (.Assign [.Name y py] (.ListComp elt [⟨tg, iter, ifs, 0⟩] scope pos) p) env P := fun W tk hx2 σ F H s0 D hD => by
  refine semP_of (ps_setLc hc hN hy hyl hsw hi ok hpg (ptsB h1) peB hs) ?_
  refine h W tk σ F H s0 (hx2.hx env σ) _ fun ds v F' H' hp s' e' ⟨q, vs, hv, h1, h2, h3, h4, h5⟩ => ?_
  subst hv
  exact hD.nx _ _ F' H' (hp q fun m => s'.g6 q m h5) (s'.setL (ltB hl) h1 h2 h3 h4 h5) e'
/-- a, b, .. = e -/
theorem w1_unpack {tg : Expr} {t : TG} {A : PyData → Option (List (Nat × PyData))} (hpg : PG X tg t) (htd : TGd X.K t A)
    (h : WE X g e env (fun d z => z = true ∧ ∃ l, A d = some l ∧ (l.all fun q => Nat.blt q.1 env.length) = true ∧ P.nx (putsE env l)) (fun c => P.ex c env))
    (hs : swapsWithSole [tg] e pos.line X.env = pure false := by rfl) (hw : swappedStores [tg] e X.env = pure none := by rfl) (h1 : (assignEach [tg] X.env).map (·.2) = [assign tg X.env] := by rfl) : W1 X g (.Assign [tg] e pos) env P := fun W tk hx2 σ F H s0 D hD => by
  refine semP_of (ps_asg (peS e) hpg hs hw h1) ?_
  refine h W tk σ F H s0 (hx2.hx env σ) _ fun d z v F' H' ⟨hz, l, hA, hl, hp⟩ s' e' r' => ?_
  subst hz
  refine htd d l σ F' H' v _ hA s'.ex r' fun r sr => ?_
  exact hD.nx _ _ F' H' hp (s'.sets sr fun q hq => ltB (List.all_eq_true.mp hl q hq)) e'
/-- e -/
theorem w1_expr (h : WE X g e env (fun _ _ => P.nx env) (fun c => P.ex c env)) (hs : swapsWith e none pos.line X.env = pure false := by rfl) : W1 X g (.Expr e pos) env P := fun W tk hx2 σ F H s0 D hD =>
  semP_of (ps_expr (peS e) hs) (h W tk σ F H s0 (hx2.hx env σ) _ fun d z v F' H' hp s' e' r' => hD.nx _ _ F' H' hp s' e')
/-- return e -/
theorem w1_ret (h : WE X g e env (fun d z => z = true ∧ P.rt (.rd d) env) (fun c => P.ex c env)) : W1 X g (.Return (some e) pos) env P := fun W tk hx2 σ F H s0 D hD =>
  semP_of (ps_ret (peS e)) (h W tk σ F H s0 (hx2.hx env σ) _ fun d z v F' H' ⟨hz, hp⟩ s' e' r' => by
    subst hz
    exact hD.rt _ v env σ F' H' hp s' r')
theorem w1_retN (h : WN X g e env (fun ds => P.rt (.nl ds) env) (fun c => P.ex c env)) : W1 X g (.Return (some e) pos) env P := fun W tk hx2 σ F H s0 D hD =>
  semP_of (ps_ret (peS e)) (h W tk σ F H s0 (hx2.hx env σ) _ fun ds v F' H' hp s' e' r' => hD.rt _ v env σ F' H' hp s' r')
theorem w1_ret0 (h : P.rt (.rd .none) env) : W1 X g (.Return none pos) env P := fun W tk hx2 σ F H s0 D hD =>
  semP_of ps_retN (hD.rt _ .non env σ F H h s0 (.non))
/-- return x, x a list made here -/
theorem w1_retO (i : Nat) {x : Str} {q : Pos} {al : Addr} {ds : List PyData} (he : env[i]? = some (.ol al ds)) (ha : al ∉ g.M) (h : P.rt (.nl ds) (env.set i .un)) (hN : X.N[i]? = some x := by rfl)
    (hv : Vis X.env.scope x := by first | exact Or.inl rfl | exact Or.inr (Or.inl rfl) | exact Or.inr (Or.inr rfl)) (hd : (x == ("__debug__" : Str)) = false := by decide)
    (hcd : (x == ("__classdict__" : Str)) = false := by decide) : W1 X g (.Return (some (.Name x q)) pos) env P := fun W tk hx2 σ F H s0 D hD => by
  refine semP_of (ps_ret (pe_var hN hv hd hcd)) ?_
  obtain ⟨h1, vs, h2, h3⟩ := s0.sl i _ he
  have own : Own env al := ⟨i, _, he, by simp [Sl.fp]⟩
  refine ⟨_, getD_some h1, hD.rt _ _ _ σ F H h (s0.weak he (fun _ h => by cases h) fun _ => trivial) ⟨al, vs, rfl, h2, h3, s0.fr al own, fun z => ?_, ?_⟩⟩
  · obtain ⟨j, t, ej, ht⟩ := z
    rcases set_get ej with ⟨_, rfl⟩ | ⟨ne, ej⟩
    · cases ht
    · exact ne (s0.nd i j _ t al he ej (by simp [Sl.fp]) ht)
  · rcases s0.g2 al own with z | z
    · exact z
    · exact absurd z ha
/-- return x, x an object that was handed in -/
theorem w1_retA (i : Nat) {x : Str} {q : Pos} {s : Sl} (he : env[i]? = some s) (hne : s.fp ≠ []) (h : P.rt (.ar i) env) (hN : X.N[i]? = some x := by rfl)
    (hv : Vis X.env.scope x := by first | exact Or.inl rfl | exact Or.inr (Or.inl rfl) | exact Or.inr (Or.inr rfl)) (hd : (x == ("__debug__" : Str)) = false := by decide)
    (hcd : (x == ("__classdict__" : Str)) = false := by decide) : W1 X g (.Return (some (.Name x q)) pos) env P := fun W tk hx2 σ F H s0 D hD => by
  refine semP_of (ps_ret (pe_var hN hv hd hcd)) ?_
  have h0 := s0.sl i s he
  obtain ⟨v, hv⟩ : ∃ v, σ[i]?.getD none = some v := by
    cases s with
    | un => exact absurd rfl hne
    | d x => exact absurd rfl hne
    | v x => exact ⟨_, h0⟩
    | ol a ds => exact ⟨_, h0.1⟩
    | bg a => exact ⟨_, h0.1⟩
    | dt a ds => exact ⟨_, h0.1⟩
    | dk a ds => exact ⟨_, h0.1⟩
  exact ⟨v, getD_some hv, hD.rt _ v env σ F H h s0 ⟨getD_some hv, s, he, hne⟩⟩
theorem w1_pass (h : P.nx env) : W1 X g (.Pass pos) env P := fun W tk hx2 σ F H s0 D hD => semP_of ps_pass (hD.nx env σ F H h s0 (Ex.refl F))
theorem w1_doc {x : Str} {j : Nat} {q : Pos} (h : P.nx env) : W1 X g (.Expr (.Constant (.str x) j q) pos) env P := fun W tk hx2 σ F H s0 D hD => semP_of ps_doc (hD.nx env σ F H h s0 (Ex.refl F))
theorem w1_break (h : P.bk env) : W1 X g (.Break pos) env P := fun W tk hx2 σ F H s0 D hD => semP_of ps_break (hD.bk env σ F H h s0 (Ex.refl F))
theorem w1_cont (h : P.ct env) : W1 X g (.Continue pos) env P := fun W tk hx2 σ F H s0 D hD => semP_of ps_continue (hD.ct env σ F H h s0 (Ex.refl F))
theorem w1_if (h : WT X g c env (fun k => (k = true → WS X g body env P) ∧ (k = false → WS X g orelse env P)) (fun c => P.ex c env)) : W1 X g (.If c body orelse pos) env P := fun W tk hx2 σ F H s0 D hD => by
  refine semP_of (ps_if (ptS c) (pssS body) (pssS orelse)) ?_
  refine h W tk σ F H s0 (hx2.hx env σ) _ fun k F' H' ⟨h1, h2⟩ s' e' => ?_
  cases k with
  | true => rw [if_pos rfl]; exact h1 rfl W tk hx2 σ F' H' s' D (hD.mono e')
  | false => rw [if_neg Bool.false_ne_true]; exact h2 rfl W tk hx2 σ F' H' s' D (hD.mono e')
/-- what a raise of an own class leans on -/
structure ExK (K : Frag) (mg : Str → Option Value) (x : Str) : Prop where
  gC : mg x = some (.ref (He.ga K x))
  ex : PySem.W.excIn K (He.ga K x) He.veBase "ValueError.__new__" = true
  kp : PySem.W.keepIn K (.ref (He.ga K x)) = true
  sb : PySem.W.subIn K (.ref (He.ga K x)) (.type "BaseException") = some true
  ty : PySem.W.typeIn K (.ref (He.ga K x)) = some (.type "type")
/-- raise X('..') -/
theorem w1_raise {x m : Str} {j : Nat} {p p2 q : Pos} (hc : X.calm = true) (k : ExK X.K X.mg x) (h : P.ex (.own x) env) (hg : Gl X x := by rfl) (hdb : (x == ("__debug__" : Str)) = false := by decide) : W1 X g (.Raise (some (.Call (.Name x p) [.Constant (.str m) j p2] [] q)) none pos) env P := fun W tk hx2 σ F H s0 D hD =>
  semP_of (ps_raise hc tk (pmk_own PySem.F.excBase_ValueError k.ex k.gC k.kp (raises_own k.sb k.ty) hg hdb)) (hx2 (.own x) env σ F H h s0)

/-! ### an object in a slot is changed -/
/-- x.append(e) -/
theorem w1_append (i : Nat) {x : Str} {q apos cpos : Pos} {al : Addr} {ds : List PyData} (he : env[i]? = some (.ol al ds)) (h : WE X g e env (fun d z => z = true ∧ ds.length < sizeLine ∧ P.nx (env.set i (.ol al (ds ++ [d])))) (fun c => P.ex c env)) (hN : X.N[i]? = some x := by rfl)
    (hv : Vis X.env.scope x := by first | exact Or.inl rfl | exact Or.inr (Or.inl rfl) | exact Or.inr (Or.inr rfl)) (hd : (x == ("__debug__" : Str)) = false := by decide)
    (hcd : (x == ("__classdict__" : Str)) = false := by decide)
    (hbase : attributeBase (.Name x q) "append" X.env (eval (.Name x q) X.env) = eval (.Name x q) X.env := by rfl)
    (hfew : ((backTo cpos (starEach [e] X.env)).all (fun x => !x.1) && (backToKw cpos (keywordEach [] X.env)).all (fun x => x.1.isSome)
      && decide ([e].length + ([] : List Keyword).length + (if ([] : List Keyword).isEmpty then 0 else 1) < 30)) = true := by rfl)
    (hline : (apos.endLine == cpos.line) = true := by rfl) (hs1 : starEach [e] X.env = (false, eval e X.env) :: starEach [] X.env := by rfl) (hplain : (backTo cpos (starEach ([] : List Expr) X.env)).any (·.1) = false := by rfl)
    (hs : swapsWith (.Call (.Attribute (.Name x q) "append" apos) [e] [] cpos) none pos.line X.env = pure false := by rfl) :
    W1 X g (.Expr (.Call (.Attribute (.Name x q) "append" apos) [e] [] cpos) pos) env P := fun W tk hx2 σ F H s0 D hD => by
  refine semP_of (ps_expr (pe_bm PySem.F.plainAttrs_list PySem.F.slot_list_append PySem.F.type_list_append mt_append (pe_var hN hv hd hcd) (pa_cons (peS e) pa_nil hs1) hbase hfew hline hs1 hplain) hs) ?_
  obtain ⟨h1, vs, h2, h3⟩ := s0.sl i _ he
  refine ⟨_, getD_some h1, .inl ⟨rfl, vs, SqL.of h2⟩, ?_⟩
  refine h W tk σ F H s0 (hx2.hx env σ) _ fun d z v F' H' ⟨hz, hl, hp⟩ s' e' r' => ?_
  subst hz
  obtain ⟨h1', vs', h2', h3'⟩ := s'.sl i _ he
  refine ⟨al, vs', v, rfl, rfl, h2', by rw [dpa_len h3']; exact hl, ?_⟩
  exact hD.nx _ _ F' _ hp (s'.write he rfl rfl ⟨h1', vs' ++ [v], upd_same, dpa_app h3' (dpa_one r')⟩) e'
/-- x[k] = e -/
theorem w1_setix (i : Nat) {x : Str} {ix : Expr} {q tpos : Pos} {al : Addr} {ds : List PyData} (he : env[i]? = some (.ol al ds)) (h : WE X g e env (fun d z => z = true ∧ WE X g ix env (fun k _ => ∃ n j, k = .int n ∧ ixN ds.length n = some j ∧ P.nx (env.set i (.ol al (ds.set j d)))) (fun c => P.ex c env)) (fun c => P.ex c env)) (hN : X.N[i]? = some x := by rfl)
    (hv : Vis X.env.scope x := by first | exact Or.inl rfl | exact Or.inr (Or.inl rfl) | exact Or.inr (Or.inr rfl)) (hd : (x == ("__debug__" : Str)) = false := by decide)
    (hcd : (x == ("__classdict__" : Str)) = false := by decide)
    (ha : ∀ v, assign (.Subscript (.Name x q) ix tpos) X.env v = (do
      let ov ← holding [v] (eval (.Name x q) X.env)
      let iv ← holding [v, ov] (eval ix X.env)
      standAt tpos
      holding [v, ov, iv] (setItem ov iv v)
      release [v, ov, iv] []) := by intro _; rfl)
    (hs : swapsWithSole [.Subscript (.Name x q) ix tpos] e pos.line X.env = pure false := by rfl) (hw : swappedStores [.Subscript (.Name x q) ix tpos] e X.env = pure none := by rfl)
    (h1 : (assignEach [.Subscript (.Name x q) ix tpos] X.env).map (·.2) = [assign (.Subscript (.Name x q) ix tpos) X.env] := by rfl) : W1 X g (.Assign [.Subscript (.Name x q) ix tpos] e pos) env P := fun W tk hx2 σ F H s0 D hD => by
  refine semP_of (ps_asg (peS e) (pg_sub (pe_var hN hv hd hcd) (peS ix) set_list ha) hs hw h1) ?_
  refine h W tk σ F H s0 (hx2.hx env σ) _ fun d z v F1 H1 ⟨hz, hp⟩ s1 e1 r1 => ?_
  subst hz
  obtain ⟨h1, vs, h2, h3⟩ := s1.sl i _ he
  refine ⟨_, getD_some h1, ?_⟩
  refine hp W tk σ F1 H1 s1 (hx2.hx env σ) _ fun k z2 w F2 H2 ⟨n, j, hk, hj, hp2⟩ s2 e2 r2 => ?_
  subst hk
  obtain ⟨h1', vs', h2', h3'⟩ := s2.sl i _ he
  refine ⟨al, vs', n, j, rfl, rd_int r2, h2', by rw [dpa_len h3']; exact hj, ?_⟩
  exact hD.nx _ _ F2 _ hp2 (s2.write he rfl rfl ⟨h1', vs'.set j v, upd_same, dpa_set j h3' (dp_mono e2 _ _ r1)⟩) (e1.trans e2)
/-- x[k] read, for an augmented store -/
def rGetL : V → V → Hp → VK → Prop := fun o i H Q => ∃ p xs k v, o = .ref p ∧ i = .int k ∧ H p = some (.lst xs) ∧ atI xs k = some v ∧ Q v H
theorem get_list : PGet X rGetL := fun pins s σ H o i ov iv Q I ro ri ⟨p, xs, k, v, ho, hi, hH, ha, q⟩ => by
  subst ho hi
  cases ro
  obtain ⟨t, rfl⟩ := ri
  obtain ⟨its, r, pl, hz⟩ := I.list (SqL.of hH)
  obtain ⟨j, h1, h2, h3, h4, h5⟩ := atI_get ha
  obtain ⟨w, ew, rw'⟩ := r.get h2
  have hl := r.length
  have hn := line63
  have fin : EP X pins σ Q w s := ⟨v, H, I, rw', q⟩
  by_cases h0 : 0 ≤ k
  · have hj : k.toNat = j := by
      rw [seqIndex_of h0 h5] at h1
      exact Option.some.inj h1
    exact wpAny_getItem_list pl.isList h0 (by omega) (by rw [hj]; simpa using ew) fin
  · have hj : (k + (its.toArray.size : Int)).toNat = j := by
      rw [seqIndex_neg (by omega) h4] at h1
      rw [List.size_toArray, ← hl]
      exact Option.some.inj h1
    exact wpAny_getItem_list_neg pl.isList (by omega) (by rw [List.size_toArray]; omega) (by omega) (by rw [hj]; simpa using ew) fin
/-- x[k] += e, ints -/
theorem w1_augix (i : Nat) {x : Str} {ix : Expr} {q tpos : Pos} {al : Addr} {ds : List PyData} (he : env[i]? = some (.ol al ds))
    (h : WE X g ix env (fun k _ => ∃ n j u, k = .int n ∧ ixN ds.length n = some j ∧ ds[j]? = some (.int u) ∧ WE X g e env (fun d _ => ∃ m, d = .int m ∧ P.nx (env.set i (.ol al (ds.set j (.int (u + m)))))) (fun c => P.ex c env)) (fun c => P.ex c env)) (hN : X.N[i]? = some x := by rfl)
    (hv : Vis X.env.scope x := by first | exact Or.inl rfl | exact Or.inr (Or.inl rfl) | exact Or.inr (Or.inr rfl)) (hd : (x == ("__debug__" : Str)) = false := by decide)
    (hcd : (x == ("__classdict__" : Str)) = false := by decide)
    (ha : ∀ ov iv new, augStore ix ov iv new = (do holding [new, ov, iv] (setItem ov iv new); release [new, ov, iv] []; pure .next) := by intros; rfl) : W1 X g (.AugAssign (.Subscript (.Name x q) ix tpos) .Add e pos) env P := fun W tk hx2 σ F H s0 D hD => by
  refine semP_of (ps_augS (pe_var hN hv hd hcd) (peS ix) get_list (peS e) ip_add set_list ha) ?_
  obtain ⟨h1, vs, h2, h3⟩ := s0.sl i _ he
  refine ⟨_, getD_some h1, ?_⟩
  refine h W tk σ F H s0 (hx2.hx env σ) _ fun k z1 w F1 H1 ⟨n, j, u, hk, hj, hu, hp⟩ s1 e1 r1 => ?_
  subst hk
  obtain ⟨h1', vs', h2', h3'⟩ := s1.sl i _ he
  obtain ⟨v0, hv0, hdv⟩ := dpa_get h3' hu
  have hat : atI vs' n = some v0 := by
    unfold atI
    rw [dpa_len h3', hj]
    exact hv0
  refine ⟨al, vs', n, v0, rfl, rd_int r1, h2', hat, ?_⟩
  refine hp W tk σ F1 H1 s1 (hx2.hx env σ) _ fun d z2 w2 F2 H2 ⟨m, hm, hp2⟩ s2 e2 r2 => ?_
  subst hm
  obtain ⟨h1'', vs'', h2'', h3''⟩ := s2.sl i _ he
  refine ⟨u, m, dp_int hdv, rd_int r2, al, vs'', n, j, rfl, rd_int r1, h2'', by rw [dpa_len h3'']; exact hj, ?_⟩
  exact hD.nx _ _ F2 _ hp2 (s2.write he rfl rfl ⟨h1'', vs''.set j (.int (u + m)), upd_same, dpa_set j h3'' (.int _)⟩) (e1.trans e2)
/-- x += e, x -= e, ints -/
theorem w1_add (i : Nat) {x : Str} {pos' : Pos} {u : Int} (hN : X.N.Nodup) (he : env[i]? = some (.d (.int u))) (h : WE X g e env (fun d _ => ∃ m, d = .int m ∧ P.nx (env.set i (.d (.int (u + m))))) (fun c => P.ex c env)) (hi : X.N[i]? = some x := by rfl) (hx : Loc X.env.scope x := by first | exact Or.inl rfl | exact Or.inr rfl)
    (hf : X.fn x = true ∨ X.env.scope.names.lookup x = some .local := by first | exact .inl rfl | exact .inr rfl) : W1 X g (.AugAssign (.Name x pos') .Add e pos) env P := fun W tk hx2 σ F H s0 D hD => by
  refine semP_of (ps_aug hN hi hx (peS e) ip_add hf) ?_
  obtain ⟨v, h1, h2⟩ := s0.sl i _ he
  refine ⟨v, getD_some h1, ?_⟩
  refine h W tk σ F H s0 (hx2.hx env σ) _ fun d z w F1 H1 ⟨m, hm, hp⟩ s1 e1 r1 => ?_
  subst hm
  exact ⟨u, m, dp_int h2, rd_int r1, hD.nx _ _ F1 H1 hp (s1.setD (List.getElem?_eq_some_iff.mp he).1 (.int _)) e1⟩
theorem w1_sub (i : Nat) {x : Str} {pos' : Pos} {u : Int} (hN : X.N.Nodup) (he : env[i]? = some (.d (.int u))) (h : WE X g e env (fun d _ => ∃ m, d = .int m ∧ P.nx (env.set i (.d (.int (u - m))))) (fun c => P.ex c env)) (hi : X.N[i]? = some x := by rfl) (hx : Loc X.env.scope x := by first | exact Or.inl rfl | exact Or.inr rfl)
    (hf : X.fn x = true ∨ X.env.scope.names.lookup x = some .local := by first | exact .inl rfl | exact .inr rfl) : W1 X g (.AugAssign (.Name x pos') .Sub e pos) env P := fun W tk hx2 σ F H s0 D hD => by
  refine semP_of (ps_aug hN hi hx (peS e) ip_sub hf) ?_
  obtain ⟨v, h1, h2⟩ := s0.sl i _ he
  refine ⟨v, getD_some h1, ?_⟩
  refine h W tk σ F H s0 (hx2.hx env σ) _ fun d z w F1 H1 ⟨m, hm, hp⟩ s1 e1 r1 => ?_
  subst hm
  exact ⟨u, m, dp_int h2, rd_int r1, hD.nx _ _ F1 H1 hp (s1.setD (List.getElem?_eq_some_iff.mp he).1 (.int _)) e1⟩

/-! ### loops -/
/-- the state between turns -/
def FJ (K : Frag) (g : G) (F1 : Hp) (Pv : Nat → List Sl → Prop) (i : Nat) (σ : SS) (H : Hp) : Prop := ∃ F env', St K g F H σ env' ∧ Ex F1 F ∧ Pv i env'
section
variable {tg iter : Expr} {t : TG} {A : PyData → Option (List (Nat × PyData))}
/-- one turn -/
def FT (X : Cx) (g : G) (body : List Stmt) (A : PyData → Option (List (Nat × PyData))) (P : Po) (Pv : Nat → List Sl → Prop) (i : Nat) (x : PyData) : Prop :=
  ∀ env', Pv i env' → ∃ l, A x = some l ∧ (l.all fun q => Nat.blt q.1 env'.length) = true ∧ WS X g body (putsE env' l) (P.turn (Pv (i + 1)))
theorem for_turn {F1 : Hp} {Pv : Nat → List Sl → Prop} {i : Nat} {x : PyData} {v : V} (tk : Takes X W) (hx2 : XOk X g P W) (hD : DOk X g F1 P D) (htd : TGd X.K t A) (hv : Dp X.K F1 v x) (hJ : FJ X.K g F1 Pv i σ H) (h : FT X g body A P Pv i x) :
    t v σ H fun σ2 H2 => semS X body { D with nx := FJ X.K g F1 Pv (i + 1), ct := FJ X.K g F1 Pv (i + 1), bk := D.nx } σ2 H2 := by
  obtain ⟨F, env', s1, e1, hp⟩ := hJ
  obtain ⟨l, hA, hl, hw⟩ := h env' hp
  refine htd x l σ F H v _ hA s1.ex (dp_mono e1 _ _ hv) fun r sr => ?_
  have s2 := s1.sets sr fun q hq => ltB (List.all_eq_true.mp hl q hq)
  exact hw W tk hx2 _ F H s2 _ ⟨fun e2 σ' F' H' q s' ex => ⟨F', e2, s', e1.trans ex, q⟩, hD.rt, fun e2 σ' F' H' q s' ex => hD.nx e2 σ' F' H' q s' (e1.trans ex), fun e2 σ' F' H' q s' ex => ⟨F', e2, s', e1.trans ex, q⟩⟩
theorem w1_forL (hp : PassesOwn (model X.prog X.w) X.A X.env X.xe) (hc : X.calm = true) (hpg : PG X tg t) (htd : TGd X.K t A)
    (hi : WE X g iter env (fun d z => z = true ∧ ∃ (xs : List PyData) (Pv : Nat → List Sl → Prop), d = .list xs ∧ Pv 0 env ∧ (∀ i x, xs[i]? = some x → FT X g body A P Pv i x) ∧ ∀ e, Pv xs.length e → P.nx e) (fun c => P.ex c env))
    (hs : ∀ x, foldedSetIterable iter X.env x = pure x := by intro _; rfl) : W1 X g (.For tg iter body [] pos) env P := fun W tk hx2 σ F H s0 D hD => by
  refine semP_of (ps_for hp hc (pi_list (peS iter)) hpg (pssS body) hs) ?_
  refine hi W tk σ F H s0 (hx2.hx env σ) _ fun d z v F1 H1 ⟨hz, xs, Pv, hd, p0, pt, pe⟩ s1 e1 rd => ?_
  subst hz hd
  obtain ⟨a, vs, rfl, hsq, hda⟩ := dp_lst rd
  refine ⟨a, rfl, ⟨vs, ex_l s1.ex hsq⟩, ?_⟩
  refine for_list (xs := vs) (FJ X.K g F1 Pv) ⟨F1, env, s1, Ex.refl F1, p0⟩ (fun i σ' H' _ ⟨F2, e2, s2, ex2, _⟩ => ex_l s2.ex (ex_l ex2 hsq)) (fun i x σ' H' hx hJ => ?_) (fun σ' H' ⟨F2, e2, s2, ex2, hp2⟩ => ?_)
  · obtain ⟨d, hd1, hd2⟩ := dpa_of hda hx
    exact for_turn tk hx2 (hD.mono e1) htd hd2 hJ (pt i d hd1)
  · rw [dpa_len hda] at hp2
    exact hD.nx e2 σ' F2 H' (pe e2 hp2) s2 (e1.trans ex2)
theorem w1_forT (hp : PassesOwn (model X.prog X.w) X.A X.env X.xe) (hc : X.calm = true) (hpg : PG X tg t) (htd : TGd X.K t A)
    (hi : WE X g iter env (fun d z => z = true ∧ ∃ (xs : List PyData) (Pv : Nat → List Sl → Prop), d = .tuple xs ∧ Pv 0 env ∧ (∀ i x, xs[i]? = some x → FT X g body A P Pv i x) ∧ ∀ e, Pv xs.length e → P.nx e) (fun c => P.ex c env))
    (hs : ∀ x, foldedSetIterable iter X.env x = pure x := by intro _; rfl) : W1 X g (.For tg iter body [] pos) env P := fun W tk hx2 σ F H s0 D hD => by
  refine semP_of (ps_for hp hc (pi_tup (peS iter)) hpg (pssS body) hs) ?_
  refine hi W tk σ F H s0 (hx2.hx env σ) _ fun d z v F1 H1 ⟨hz, xs, Pv, hd, p0, pt, pe⟩ s1 e1 rd => ?_
  subst hz hd
  obtain ⟨a, vs, rfl, hsq, hda⟩ := dp_tup rd
  refine ⟨a, rfl, ⟨vs, ex_t s1.ex hsq⟩, ?_⟩
  refine for_tup (xs := vs) (FJ X.K g F1 Pv) ⟨F1, env, s1, Ex.refl F1, p0⟩ (fun i σ' H' _ ⟨F2, e2, s2, ex2, _⟩ => ex_t s2.ex (ex_t ex2 hsq)) (fun i x σ' H' hx hJ => ?_) (fun σ' H' ⟨F2, e2, s2, ex2, hp2⟩ => ?_)
  · obtain ⟨d, hd1, hd2⟩ := dpa_of hda hx
    exact for_turn tk hx2 (hD.mono e1) htd hd2 hJ (pt i d hd1)
  · rw [dpa_len hda] at hp2
    exact hD.nx e2 σ' F2 H' (pe e2 hp2) s2 (e1.trans ex2)
theorem w1_forR1 {p1 p2 : Pos} (hm : X.mg "range" = none) (hp : PassesOwn (model X.prog X.w) X.A X.env X.xe) (hc : X.calm = true) (hpg : PG X tg t) (htd : TGd X.K t A)
    (hi : WE X g a env (fun d z => ∃ (n : Int) (Pv : Nat → List Sl → Prop), d = .int n ∧ (-1000000 ≤ n ∧ n ≤ 1000000000) ∧ Pv 0 env ∧ (∀ i : Nat, (i : Int) < n → FT X g body A P Pv i (.int i)) ∧ ∀ e, Pv n.toNat e → P.nx e) (fun c => P.ex c env))
    (hs : ∀ x, foldedSetIterable (.Call (.Name "range" p1) [a] [] p2) X.env x = pure x := by intro _; rfl) (hg : Gl X "range" := by rfl) (he : starEach [a] X.env = [(false, eval a X.env)] := by rfl) : W1 X g (.For tg (.Call (.Name "range" p1) [a] [] p2) body [] pos) env P := fun W tk hx2 σ F H s0 D hD => by
  refine semP_of (ps_for hp hc (pi_range1 hg hm (pa_cons (peS a) pa_nil (by rw [he]; rfl)) he) hpg (pssS body) hs) ?_
  refine hi W tk σ F H s0 (hx2.hx env σ) _ fun d z v F1 H1 ⟨n, Pv, hd, hn, p0, pt, pe⟩ s1 e1 rd => ?_
  subst hd
  rw [rd_int rd]
  refine ⟨n, rfl, by omega, by omega, ?_⟩
  refine for_range (lo := 0) (n := n.toNat) (FJ X.K g F1 Pv) ⟨F1, env, s1, Ex.refl F1, p0⟩ (fun i σ' H' hi2 hJ => ?_) (fun σ' H' ⟨F2, e2, s2, ex2, hp2⟩ => ?_)
  · rw [Int.zero_add]
    exact for_turn tk hx2 (hD.mono e1) htd (.int _) hJ (pt i (by omega))
  · exact hD.nx e2 σ' F2 H' (pe e2 hp2) s2 (e1.trans ex2)
theorem w1_forR2 {p1 p2 : Pos} (hm : X.mg "range" = none) (hp : PassesOwn (model X.prog X.w) X.A X.env X.xe) (hc : X.calm = true) (hpg : PG X tg t) (htd : TGd X.K t A)
    (hi : WE X g a env (fun d z => ∃ lo, d = .int lo ∧ WE X g b env (fun d z => ∃ (n : Int) (Pv : Nat → List Sl → Prop), d = .int n ∧ (-1000000 ≤ lo ∧ lo ≤ 1000000000 ∧ -1000000 ≤ n ∧ n ≤ 1000000000) ∧ Pv 0 env ∧ (∀ i : Nat, lo + (i : Int) < n → FT X g body A P Pv i (.int (lo + i))) ∧ ∀ e, Pv (n - lo).toNat e → P.nx e) (fun c => P.ex c env)) (fun c => P.ex c env))
    (hs : ∀ x, foldedSetIterable (.Call (.Name "range" p1) [a, b] [] p2) X.env x = pure x := by intro _; rfl) (hg : Gl X "range" := by rfl) (he : starEach [a, b] X.env = [(false, eval a X.env), (false, eval b X.env)] := by rfl) (he2 : starEach [b] X.env = [(false, eval b X.env)] := by rfl) : W1 X g (.For tg (.Call (.Name "range" p1) [a, b] [] p2) body [] pos) env P := fun W tk hx2 σ F H s0 D hD => by
  refine semP_of (ps_for hp hc (pi_range2 hg hm (pa_cons (peS a) (pa_cons (peS b) pa_nil (by rw [he2]; rfl)) (by rw [he, he2])) he he2) hpg (pssS body) hs) ?_
  refine hi W tk σ F H s0 (hx2.hx env σ) _ fun d0 z0 v0 F0 H0 ⟨lo, hd0, hi2⟩ s00 e0 rd0 => ?_
  refine hi2 W tk σ F0 H0 s00 (hx2.hx env σ) _ fun d z v F1 H1 ⟨n, Pv, hd, hn, p0, pt, pe⟩ s1 e1 rd => ?_
  subst hd hd0
  rw [rd_int rd, rd_int rd0]
  refine ⟨lo, n, rfl, ⟨by omega, by omega, by omega, by omega⟩, ?_⟩
  refine for_range (lo := lo) (n := (n - lo).toNat) (FJ X.K g F1 Pv) ⟨F1, env, s1, Ex.refl F1, p0⟩ (fun i σ' H' hi2 hJ => ?_) (fun σ' H' ⟨F2, e2, s2, ex2, hp2⟩ => ?_)
  · exact for_turn tk hx2 (hD.mono (e0.trans e1)) htd (.int _) hJ (pt i (by omega))
  · exact hD.nx e2 σ' F2 H' (pe e2 hp2) s2 ((e0.trans e1).trans ex2)
end
/-- while: a word with a number that falls -/
theorem w1_while (hp : PassesOwn (model X.prog X.w) X.A X.env X.xe) (Pv : Nat → List Sl → Prop) (m0 : Nat) (h0 : Pv m0 env)
    (h : ∀ m env', Pv m env' → WT X g c env' (fun k => (k = true → WS X g body env' (P.turn fun e => ∃ m', m' < m ∧ Pv m' e)) ∧ (k = false → P.nx env')) (fun c => P.ex c env')) : W1 X g (.While c body [] pos) env P := fun W tk hx2 σ F H s0 D hD => by
  refine semP_of (ps_while hp (ptS c) (pssS body)) ?_
  refine ⟨fun m σ' H' => FJ X.K g F (fun _ e => Pv m e) 0 σ' H', ⟨m0, F, env, s0, Ex.refl F, h0⟩, fun m σ' H' ⟨F1, e1, s1, ex1, hp1⟩ => ?_⟩
  refine h m e1 hp1 W tk σ' F1 H' s1 (hx2.hx e1 σ') _ fun k F2 H2 ⟨ht, hf⟩ s2 ex2 => ?_
  cases k with
  | true =>
    rw [if_pos rfl]
    refine ⟨fun σ3 H3 => ∃ m', m' < m ∧ FJ X.K g F (fun _ e => Pv m' e) 0 σ3 H3, fun σ3 H3 ⟨m', hm, q⟩ => ⟨m', hm, q⟩, ?_⟩
    exact ht rfl W tk hx2 σ' F2 H2 s2 _ ⟨fun e3 σ3 F3 H3 ⟨m', hm, q⟩ s3 ex3 => ⟨m', hm, F3, e3, s3, (ex1.trans ex2).trans ex3, q⟩, hD.rt, fun e3 σ3 F3 H3 q s3 ex3 => hD.nx e3 σ3 F3 H3 q s3 ((ex1.trans ex2).trans ex3), fun e3 σ3 F3 H3 ⟨m', hm, q⟩ s3 ex3 => ⟨m', hm, F3, e3, s3, (ex1.trans ex2).trans ex3, q⟩⟩
  | false =>
    rw [if_neg Bool.false_ne_true]
    exact hD.nx e1 σ' F2 H2 (hf rfl) s2 (ex1.trans ex2)
end
end TL

namespace TL
open PySem PySem.Spec PyProof.Rows L2

/-! ### a def's body keeps its contract -/
def BackS : Sl → Sl → Sl → Prop
  | .un, _, s' => s' = .un
  | .d x, _, s' => s' = .d x
  | .v x, _, s' => s' = .v x
  | .ol a _, .ol b ds', s' => b = a ∧ s' = .ol a ds'
  | .bg a, .bg b, s' => b = a ∧ s' = .bg a
  | .bg a, .ol b ds, s' => b = a ∧ BagD ds ∧ s' = .bg a
  | .dt a _, .dt b kvs, s' => b = a ∧ s' = .dt a kvs
  | .dk a _, .dk b kvs, s' => b = a ∧ s' = .dk a kvs
  | _, _, _ => False
def Back : List Sl → List Sl → List Sl → Prop
  | [], _, r => r = []
  | s :: r, e :: env, s' :: r' => BackS s e s' ∧ Back r env r'
  | _, _, _ => False
theorem backS_fp {s e s' : Sl} (h : BackS s e s') : s'.fp = s.fp := by
  cases s with
  | un => rw [show s' = _ from h]
  | d x => rw [show s' = _ from h]
  | v x => rw [show s' = _ from h]
  | ol a ds => cases e <;> first | exact h.elim | (rw [h.2]; rfl)
  | bg a => cases e <;> first | exact h.elim | (rw [h.2]) | (rw [h.2.2])
  | dt a ds => cases e <;> first | exact h.elim | (rw [h.2]; rfl)
  | dk a ds => cases e <;> first | exact h.elim | (rw [h.2]; rfl)
theorem backS_val {K : Frag} {F F' H H' : Hp} {o o' : Option V} {s e s' : Sl} (h : BackS s e s') (hne : e.fp ≠ []) (hs : s'.fp ≠ []) (h0 : SlOk K F H o s) (h1 : SlOk K F' H' o' e) : o = o' := by
  cases s with
  | un => rw [show s' = _ from h] at hs; exact absurd rfl hs
  | d x => rw [show s' = _ from h] at hs; exact absurd rfl hs
  | v x => rw [show s' = _ from h] at hs; exact absurd rfl hs
  | ol a ds => cases e <;> first | exact h.elim | exact h0.1.trans (by rw [h1.1, h.1])
  | bg a => cases e <;> first | exact h.elim | exact h0.1.trans (by rw [h1.1, h.1])
  | dt a ds => cases e <;> first | exact h.elim | exact h0.1.trans (by rw [h1.1, h.1])
  | dk a ds => cases e <;> first | exact h.elim | exact h0.1.trans (by rw [h1.1, h.1])
theorem backS_env {s e s' : Sl} (h : BackS s e s') (hne : s.fp ≠ []) : e.fp = s.fp := by
  cases s <;> cases e <;> first
    | exact h.elim
    | exact absurd rfl hne
    | (have h1 := h.1; subst h1; rfl)
theorem back_len : ∀ {args env args' : List Sl}, Back args env args' → args'.length = args.length
  | [], _, _, h => by rw [show _ = [] from h]
  | s :: r, e :: env, s' :: r', h => congrArg Nat.succ (back_len h.2)
  | _ :: _, [], _, h => h.elim
  | _ :: _, _ :: _, [], h => h.elim
theorem back_get : ∀ {args env args' : List Sl} {i : Nat} {s' : Sl}, Back args env args' → args'[i]? = some s' → ∃ s e, args[i]? = some s ∧ env[i]? = some e ∧ BackS s e s'
  | [], _, _, i, s', h, e => by rw [show _ = [] from h] at e; simp at e
  | s :: r, e :: env, t :: r', 0, s', h, q => by
    have e' := Option.some.inj q
    subst e'
    exact ⟨s, e, rfl, rfl, h.1⟩
  | s :: r, e :: env, t :: r', i + 1, s', h, q => back_get (i := i) h.2 q
  | _ :: _, [], _, _, _, h, _ => h.elim
  | _ :: _, _ :: _, [], _, _, h, _ => h.elim
theorem slok_back {K : Frag} {F F' H H' : Hp} {o o' : Option V} {s e s' : Sl} (h : BackS s e s') (e0 : Ex F F') (h0 : SlOk K F H o s) (h1 : SlOk K F' H' o' e) : SlOk K F' H' o s' := by
  cases s with
  | un => rw [show s' = .un from h]; trivial
  | d x => rw [show s' = .d x from h]; obtain ⟨v, q1, q2⟩ := h0; exact ⟨v, q1, dp_mono e0 _ _ q2⟩
  | v x => rw [show s' = .v x from h]; exact h0
  | ol a ds =>
    cases e <;> first
      | exact h.elim
      | (obtain ⟨rfl, rfl⟩ := h; exact ⟨h0.1, h1.2⟩)
  | bg a =>
    cases e <;> first
      | exact h.elim
      | (obtain ⟨rfl, rfl⟩ := h; exact ⟨h0.1, h1.2⟩)
      | (obtain ⟨rfl, hb, rfl⟩ := h; obtain ⟨_, vs, q1, q2⟩ := h1; exact ⟨h0.1, _, vs, hb, q1, q2⟩)
  | dt a ds =>
    cases e <;> first
      | exact h.elim
      | (obtain ⟨rfl, rfl⟩ := h; exact ⟨h0.1, h1.2⟩)
  | dk a ds =>
    cases e <;> first
      | exact h.elim
      | (obtain ⟨rfl, rfl⟩ := h; exact ⟨h0.1, h1.2⟩)
def prIx (args args' : List Sl) : PR → Prop
  | .ar i => i < args.length ∧ ∀ s', args'[i]? = some s' → s'.fp ≠ []
  | _ => True
/-- what a body is to reach -/
def endOf (args : List Sl) (Φ : PR → List Sl → Prop) (Ψ : Exc → List Sl → Prop) : Po where
  nx := fun env' => ∃ args', Φ (.rd .none) args' ∧ Back args env' args'
  rt := fun r env' => ∃ args', Φ r args' ∧ prIx args args' r ∧ Back args env' args'
  ex := fun c env' => ∃ args', Ψ c args' ∧ Back args env' args'
theorem pad_get {args : List Sl} {n i : Nat} {s : Sl} (h : (args ++ List.replicate n .un)[i]? = some s) : args[i]? = some s ∨ s = .un := by
  by_cases hi : i < args.length
  · rw [List.getElem?_append_left hi] at h; exact .inl h
  · rw [List.getElem?_append_right (by omega)] at h
    rw [List.getElem?_replicate] at h
    split at h
    · exact .inr (Option.some.inj h).symm
    · cases h
theorem Sk.pad {K : Frag} {F H : Hp} {vs : List V} {args : List Sl} {N : List Str} (sk : Sk K F H (vs.map some) args) (hl : vs.length ≤ N.length) : Sk K F H (L2.start N vs) (args ++ List.replicate (N.length - vs.length) .un) := by
  have hlen : args.length = vs.length := by have := sk.len; rw [List.length_map] at this; exact this.symm
  have ow : ∀ a, Own (args ++ List.replicate (N.length - vs.length) .un) a → Own args a := fun a ⟨i, s, h1, h2⟩ => by
    rcases pad_get h1 with q | q
    · exact ⟨i, s, q, h2⟩
    · subst q; cases h2
  refine ⟨by unfold L2.start; simp only [List.length_append, List.length_map, List.length_replicate]; omega, fun i s h => ?_, fun i j s t a h1 h2 h3 h4 => ?_, fun a h => sk.fr a (ow a h), sk.ex⟩
  · rcases pad_get h with q | q
    · have hi : i < (vs.map some).length := by rw [List.length_map, ← hlen]; exact (List.getElem?_eq_some_iff.mp q).1
      have e : (L2.start N vs)[i]? = (vs.map some)[i]? := by unfold L2.start; rw [List.getElem?_append_left hi]
      rw [e]; exact sk.sl i s q
    · subst q; trivial
  · rcases pad_get h1 with q | q
    · rcases pad_get h2 with q2 | q2
      · exact sk.nd i j s t a q q2 h3 h4
      · subst q2; cases h4
    · subst q; cases h3
section
variable {P : Program} {w : World} {K : Frag} {mg : Str → Option Value} {base : Heap} {f : Addr} {fd : FuncData} {N ps : List Str} {k : Nat} {S : CT}
theorem fn_ok {x : Str} {st : Stmt} (F : FunD K x x (defArgs st) (defBody st) (defScope st) [] [] f fd) (sc : FnScope N ps (defScope st)) (hln : Nat.ble ps.length N.length = true)
    (body : ∀ (cdv : Value) (A : Around) (outer : List Env) (s : Shared) (H : Hp) (E : XK) (g : G) (args : List Sl) (Φ : PR → List Sl → Prop) (Ψ : Exc → List Sl → Prop),
      Room k (cxOf (L2.CX P w) P w K mg base N x (defScope st) f cdv A outer s H E).A →
      PassesOwn (model P w) (cxOf (L2.CX P w) P w K mg base N x (defScope st) f cdv A outer s H E).A (cxOf (L2.CX P w) P w K mg base N x (defScope st) f cdv A outer s H E).env (cxOf (L2.CX P w) P w K mg base N x (defScope st) f cdv A outer s H E).xe →
      g.M = fps args → args.length = ps.length → S args Φ Ψ →
      WS (cxOf (L2.CX P w) P w K mg base N x (defScope st) f cdv A outer s H E) g (defBody st) (args ++ List.replicate (N.length - ps.length) .un) (endOf args Φ Ψ)) : FnOk P w K mg base (L2.CX P w) (k + 1) f fd ps (spOf K ps.length S) := by
  refine F.ok sc (fun vs H Q E h => h.1) fun cdv A outer s H vs Q E hr h => ?_
  obtain ⟨hvl, F0, args, Φ, Ψ, hS, sk, hret, hexc⟩ := h
  have hal : args.length = ps.length := by have := sk.len; rw [List.length_map] at this; omega
  have hln' : ps.length ≤ N.length := Nat.le_of_ble_eq_true hln
  refine ⟨semS _ _, pssS _, ?_⟩
  have skp := sk.pad (N := N) (by omega)
  rw [hvl] at skp
  have fpe : ∀ a, a ∈ fps args ↔ Own args a := fun a => own_fps.symm
  have st0 : St K ⟨F0, H, fps args⟩ F0 H (L2.start N vs) (args ++ List.replicate (N.length - ps.length) .un) :=
    { skp with
      g1 := fun _ _ h _ => h, g3 := Ex.refl F0, g4 := fun a h => .inl h
      g2 := fun a ⟨i, s, h1, h2⟩ => by
        rcases pad_get h1 with q | q
        · exact .inr ((fpe a).mpr ⟨i, s, q, h2⟩)
        · subst q; cases h2
      g5 := fun a h => sk.there ((fpe a).mp h)
      g6 := fun a h => sk.there ((fpe a).mp h) }
  -- what holds at every end
  have fin : ∀ {F' H' : Hp} {σ' : SS} {env' args' : List Sl}, St K ⟨F0, H, fps args⟩ F' H' σ' env' → Back args env' args' →
      Sk K F' H' (vs.map some) args' ∧ Step F0 H args F' H' ∧ (∀ a, Own args' a → Own args a) ∧ ∀ a, Own args' a → Own env' a := fun {F' H' σ' env' args'} s' hbk => by
    have sub : ∀ a, Own args' a → Own args a ∧ Own env' a := fun a ⟨i, s', h1, h2⟩ => by
      obtain ⟨s, e, q1, q2, q3⟩ := back_get hbk h1
      rw [backS_fp q3] at h2
      exact ⟨⟨i, s, q1, h2⟩, ⟨i, e, q2, by rw [backS_env q3 (fun z => by rw [z] at h2; cases h2)]; exact h2⟩⟩
    refine ⟨⟨by rw [List.length_map, back_len hbk]; omega, fun i t h => ?_, fun i j s t a h1 h2 h3 h4 => ?_, fun a h => s'.fr a (sub a h).2, s'.ex⟩, ⟨s'.g3, fun a o h hn => s'.g1 a o h fun m => hn ((fpe a).mp m), fun a h => s'.g4 a h, fun a h => ?_⟩, fun a h => (sub a h).1, fun a h => (sub a h).2⟩
    · obtain ⟨s, e, q1, q2, q3⟩ := back_get hbk h
      exact slok_back q3 s'.g3 (sk.sl i s q1) (s'.sl i e q2)
    · obtain ⟨s1, e1, q1, _, q3⟩ := back_get hbk h1
      obtain ⟨s2, e2, q4, _, q6⟩ := back_get hbk h2
      rw [backS_fp q3] at h3
      rw [backS_fp q6] at h4
      exact sk.nd i j s1 s2 a q1 q4 h3 h4
    · intro z
      by_cases m : a ∈ fps args
      · exact s'.g5 a m z
      · cases q : H a with
        | none => exact h q
        | some u => rw [s'.g1 a u q m] at z; cases z
  have hb0 := body cdv A outer s H E ⟨F0, H, fps args⟩ args Φ Ψ hr (passes_of rfl) rfl hal hS
  refine hb0 (fun cls d _ H => E cls d H) (takes_of rfl rfl rfl rfl) (fun c env' σ' F' H' ⟨args', hp, hbk⟩ s' => ?_) (L2.start N vs) F0 H st0 _ ⟨fun env' σ' F' H' ⟨args', hp, hbk⟩ s' e' => ?_, fun r v env' σ' F' H' ⟨args', hp, hix, hbk⟩ s' ro => ?_, fun _ _ _ _ h => h.elim, fun _ _ _ _ h => h.elim⟩
  · obtain ⟨h1, h2, h3, h4⟩ := fin s' hbk
    have := hexc c args' F' H' hp h1 h2 h3
    cases c
    exact this
  · obtain ⟨h1, h2, h3, h4⟩ := fin s' hbk
    exact hret (.rd .none) .non args' F' H' hp h1 h2 h3 .non
  · obtain ⟨h1, h2, h3, h4⟩ := fin s' hbk
    refine hret r v args' F' H' hp h1 h2 h3 ?_
    cases r with
    | rd d => exact ro
    | nl ds =>
      obtain ⟨p, xs, q1, q2, q3, q4, q5, q6⟩ := ro
      exact ⟨p, xs, q1, q2, q3, q4, q6, fun z => q5 (h4 p z)⟩
    | ar i =>
      obtain ⟨q1, e, q2, q3⟩ := ro
      obtain ⟨hi, hown⟩ : i < args.length ∧ ∀ s', args'[i]? = some s' → s'.fp ≠ [] := hix
      have hi' : i < args'.length := by rw [back_len hbk]; exact hi
      obtain ⟨s0, e0, q4, q5, q6⟩ := back_get hbk (List.getElem?_eq_getElem hi')
      rw [q2] at q5
      have q5' := Option.some.inj q5
      subst q5'
      have k2 := s'.sl i e q2
      rw [q1] at k2
      show vs[i]? = some v
      have hv : i < vs.length := by omega
      have k1 := sk.sl i s0 q4
      have ev : ((vs.map some)[i]?.getD none : Option V) = some vs[i] := vmap_get (List.getElem?_eq_getElem hv)
      rw [ev] at k1
      have z := backS_val q6 q3 (hown _ (List.getElem?_eq_getElem hi')) k1 k2
      rw [List.getElem?_eq_getElem hv]
      exact z
theorem fn_has {x : Str} {st : Stmt} (F : FunD K x x (defArgs st) (defBody st) (defScope st) [] [] f fd) (hm : mg x = some (.ref f)) (sc : FnScope N ps (defScope st)) (hb : Binds K fd ps []) (hln : Nat.ble ps.length N.length = true)
    (body : ∀ (cdv : Value) (A : Around) (outer : List Env) (s : Shared) (H : Hp) (E : XK) (g : G) (args : List Sl) (Φ : PR → List Sl → Prop) (Ψ : Exc → List Sl → Prop),
      Room k (cxOf (L2.CX P w) P w K mg base N x (defScope st) f cdv A outer s H E).A →
      PassesOwn (model P w) (cxOf (L2.CX P w) P w K mg base N x (defScope st) f cdv A outer s H E).A (cxOf (L2.CX P w) P w K mg base N x (defScope st) f cdv A outer s H E).env (cxOf (L2.CX P w) P w K mg base N x (defScope st) f cdv A outer s H E).xe →
      g.M = fps args → args.length = ps.length → S args Φ Ψ →
      WS (cxOf (L2.CX P w) P w K mg base N x (defScope st) f cdv A outer s H E) g (defBody st) (args ++ List.replicate (N.length - ps.length) .un) (endOf args Φ Ψ)) : Has P w K mg base (k + 1) x ps S := ⟨f, fd, hm, F.kp, hb, fn_ok F sc hln body⟩
end

/-! ### try -/
def ExM (K : Frag) : Exc → Str → Option Bool
  | .own m, n => PySem.W.exmOne K (.ref (He.ga K m)) (.ref (He.ga K n))
/-- what the clauses do with an exception -/
def TryH (X : Cx) (g : G) (P : Po) : List (Str × List Stmt) → Exc → List Sl → Prop
  | [], c, env' => P.ex c env'
  | (n, suite) :: r, c, env' => ∃ b, ExM X.K c n = some b ∧ (b = true → ∀ (a : Addr) (q : Addr × Obj) (pn : List (Addr × Obj)), WS (X.suite a (q :: pn)) g suite env' (P.exn fun _ _ => False)) ∧ (b = false → TryH X g P r c env')
inductive HdR (X : Cx) : List ExceptHandler → List (Str × List Stmt) → Prop
  | nil : HdR X [] []
  | cons {x : Str} {b₀ : Stmt} {suite : List Stmt} {np pos' : Pos} {hds : List ExceptHandler} {l : List (Str × List Stmt)} (hc : Names X x (.ref (He.ga X.K x))) (r : HdR X hds l) :
      HdR X (.ExceptHandler (some (.Name x np)) none (b₀ :: suite) pos' :: hds) ((x, b₀ :: suite) :: l)
section
variable {X : Cx} {g : G} {env env' : List Sl} {P : Po} {pos p : Pos} {body : List Stmt} {F F' H H' : Hp} {σ σ' : SS} {D : Ends} {W : WX}
def tsOf (X : Cx) (suite : List Stmt) (a : Addr) (cls : Value) (d : Option Addr) : TS := fun D σ H => ∀ (oe : Obj) (pn : List (Addr × Obj)), semS (X.suite a ((a, oe) :: pn)) suite D σ H
def hdL (X : Cx) : List (Str × List Stmt) → List (Value × (Addr → Value → Option Addr → TS))
  | [] => []
  | (n, suite) :: r => (.ref (He.ga X.K n), tsOf X suite) :: hdL X r
theorem hdr_ok : ∀ {hds : List ExceptHandler} {l : List (Str × List Stmt)}, HdR X hds l → HdsOk X hds (hdL X l)
  | _, _, .nil => .nil
  | _, _, .cons hc r => .cons hc (fun a oe cls d pn _ _ => ⟨fun pins s σ H D I h => (h oe pn).run pins s I⟩) (hdr_ok r)
theorem tryh_run {F1 : Hp} (hx2 : XOk X g P W) (hD : DOk X g F1 P D) : ∀ {l : List (Str × List Stmt)} {c : Exc} {env' : List Sl} {σ' : SS} {F' H' : Hp}, TryH X g P l c env' → St X.K g F' H' σ' env' → Ex F1 F' → ExcW X.K (wMany X.K W D (hdL X l)) σ' H' c
  | [], c, env', σ', F', H', h, s', e' => by
    have := hx2 c env' σ' F' H' h s'
    cases c
    exact this
  | (n, suite) :: r, c, env', σ', F', H', ⟨b, h1, h2, h3⟩, s', e' => by
    cases c with
    | own m =>
      refine ⟨b, h1, fun hb a ha oe pn => ?_, fun hb => tryh_run hx2 hD (h3 hb) s' e'⟩
      refine h2 hb a (a, oe) pn (fun _ _ _ _ => False) (fun _ _ x => by obtain ⟨_, _, _, _, _, _, _, _, _, _, _, _, _, _, _, _, z⟩ := x; exact z.elim) (fun _ _ _ _ _ z => z.elim) σ' F' H' s' D ?_
      exact ⟨fun e2 σ2 F2 H2 q s2 ex2 => hD.nx e2 σ2 F2 H2 q s2 (e'.trans ex2), hD.rt, fun e2 σ2 F2 H2 q s2 ex2 => hD.bk e2 σ2 F2 H2 q s2 (e'.trans ex2), fun e2 σ2 F2 H2 q s2 ex2 => hD.ct e2 σ2 F2 H2 q s2 (e'.trans ex2)⟩
theorem St.at {K : Frag} (st : St K g F H σ env) : St K { g with F0 := F } F H σ env :=
  { st.toSk with g1 := st.g1, g2 := st.g2, g3 := Ex.refl F, g4 := fun a h => .inl h, g5 := st.g5, g6 := st.g6 }
theorem St.ofAt {K : Frag} (st : St K g F H σ env) (s' : St K { g with F0 := F } F' H' σ' env') : St K g F' H' σ' env' :=
  { s'.toSk with g1 := s'.g1, g2 := s'.g2, g3 := st.g3.trans s'.g3, g5 := s'.g5, g6 := s'.g6
                 g4 := fun a h => by
                   rcases s'.g4 a h with q | q
                   · exact st.g4 a q
                   · exact .inr q }
/-- try: body, several clauses -/
theorem w1_try {h₀ : ExceptHandler} {hds : List ExceptHandler} {l : List (Str × List Stmt)} (hr : HdR X (h₀ :: hds) l)
    (h : ∀ (pn : List (Addr × Obj)) (xe : Value → Shared → Prop) (F : Hp), PassesOwn (model X.prog X.w) X.A X.env xe → WS (X.tr pn xe) { g with F0 := F } body env (P.exn (TryH X g P l)))
    (hs : X.stack = X.env :: X.outer := by rfl) (hf : X.env.frame = some X.env.locals := by rfl) : W1 X g (.Try body (h₀ :: hds) [] [] pos) env P := fun W tk hx2 σ F H s0 D hD => by
  refine semP_of (ps_try_many (tb := fun W' => fun D' σ' H' => ∀ (pn : List (Addr × Obj)) (xe : Value → Shared → Prop), Takes (X.tr pn xe) W' → PassesOwn (model X.prog X.w) X.A X.env xe → semS (X.tr pn xe) body D' σ' H') hs hf tk
    (fun W' pn xe tk' po => ⟨fun pins s σ H D I h => (h pn xe tk' po).run pins s I⟩) (hdr_ok hr)) ?_
  intro pn xe tk' po
  refine h pn xe F po _ tk' (fun c env' σ' F' H' hc s' => ?_) σ F H s0.at D ⟨fun e σ' F' H' q s' ex => hD.nx e σ' F' H' q (s0.ofAt s') ex, fun r v e σ' F' H' q s' ro => hD.rt r v e σ' F' H' q (s0.ofAt s') ?_, fun e σ' F' H' q s' ex => hD.bk e σ' F' H' q (s0.ofAt s') ex, fun e σ' F' H' q s' ex => hD.ct e σ' F' H' q (s0.ofAt s') ex⟩
  · exact tryh_run hx2 hD hc (s0.ofAt s') s'.g3
  · cases r <;> exact ro
end

/-! ### the law -/
def cLaw : CT := fun args Φ Ψ => ∃ ns : List Int, args = [.d (.list (ns.map .int))] ∧ ns.length ≤ 63 ∧ Φ (.rd (.bool true)) args
theorem law_sp {K : Frag} {H : Hp} {a : Addr} {ns : List Int} (hl : ns.length ≤ 63) (hS : SqL K H a (ns.map V.int)) : spOf K 1 cLaw [.ref a] H (fun v _ => v = .bl true) (fun _ _ _ => False) := by
  refine ⟨rfl, H, [.d (.list (ns.map .int))], fun r args' => r = .rd (.bool true), fun _ _ => False, ⟨ns, rfl, hl, rfl⟩, ⟨rfl, fun i s h => ?_, fun i j s t b h1 h2 h3 h4 => ?_, fun b ⟨i, s, h1, h2⟩ => ?_, Ex.refl H⟩, fun r v args' F' H' hp _ _ _ pr => ?_, fun c _ _ _ hp _ _ _ => hp.elim⟩
  · match i, h with
    | 0, h =>
      have e := Option.some.inj h
      subst e
      exact ⟨.ref a, rfl, .lst hS (dpa_ints ns)⟩
    | i + 1, h => simp at h
  · match i, h1 with
    | 0, h1 =>
      have e := Option.some.inj h1
      subst e
      cases h3
    | i + 1, h => simp at h
  · match i, h1 with
    | 0, h1 =>
      have e := Option.some.inj h1
      subst e
      cases h2
    | i + 1, h => simp at h
  · subst hp
    exact dp_bl pr
end TL

namespace TL
open PySem PySem.Spec PyProof.Rows L2
section
variable {X : Cx} {g : G} {env env' : List Sl} {Ψ : Exc → Prop} {P : Po} {pos p : Pos} {a b c e : Expr} {es : List Expr} {rest : List Stmt} {K : Frag} {F F' H H' : Hp} {σ σ' : SS}
/-- list + list, a new list -/
theorem wn_add {Φ : List PyData → Prop} (h : WE X g a env (fun d1 _ => ∃ xs, d1 = .list xs ∧ WE X g b env (fun d2 _ => ∃ ys, d2 = .list ys ∧ xs.length + ys.length ≤ sizeLine ∧ Φ (xs ++ ys)) Ψ) Ψ) : WN X g (.BinOp a .Add b pos) env Φ Ψ := by
  intro W tk σ F H st hx Q hQ
  refine semE_of (pe_op op_catL (peS a) (peS b)) ?_
  refine h W tk σ F H st hx _ fun d1 z1 v1 F1 H1 ⟨xs, hd1, h1⟩ st1 e1 r1 => ?_
  subst hd1
  refine h1 W tk σ F1 H1 st1 hx _ fun d2 z2 v2 F2 H2 ⟨ys, hd2, hl, hp⟩ st2 e2 r2 => ?_
  subst hd2
  obtain ⟨p1, vs1, rfl, s1, q1⟩ := rd_lst st2.toSk (rd_mono e2 r1)
  obtain ⟨p2, vs2, rfl, s2, q2⟩ := rd_lst st2.toSk r2
  refine ⟨p1, p2, vs1, vs2, rfl, rfl, s1, s2, by rw [dpa_len q1, dpa_len q2]; exact hl, fun p hn => ?_⟩
  exact put_new st2 hn (dpa_app q1 q2) hp fun ds v F' H' hp s e r => hQ ds v F' H' hp s ((e1.trans e2).trans e) r
/-- a statement, what holds behind it, the rest -/
theorem ws_mid {st : Stmt} (M : List Sl → Prop) (h1 : W1 X g st env (P.thn M)) (h2 : ∀ e, M e → WS X g rest e P) : WS X g (st :: rest) env P := fun W tk hx σ F H s0 D hD => by
  refine semS_of (pss_cons (psP st) (pssS rest)) ?_
  refine h1 W tk hx σ F H s0 _ ⟨fun env' σ' F' H' hw s' e' => ?_, hD.rt, hD.bk, hD.ct⟩
  exact h2 env' hw W tk hx σ' F' H' s' D (hD.mono e')
/-! bags: opened, closed -/
theorem ws_close (i : Nat) {al : Addr} {ds : List PyData} (he : env[i]? = some (.ol al ds)) (hb : BagD ds) (h : WS X g rest (env.set i (.bg al)) P) : WS X g rest env P := fun W tk hx σ F H st D hD =>
  h W tk hx σ F H (st.weak he (fun a m => m) fun ⟨h1, vs, h2, h3⟩ => ⟨h1, ds, vs, hb, h2, h3⟩) D hD
theorem ws_open (i : Nat) {al : Addr} (he : env[i]? = some (.bg al)) (h : ∀ (cells : List Int) (j s t : Int), (∀ c ∈ cells, (0 : Int) ≤ c) → 0 ≤ j → 0 ≤ s → 0 ≤ t → t < 2147483629 → WS X g rest (env.set i (.ol al [.list (cells.map .int), .int j, .int s, .int t])) P) : WS X g rest env P := fun W tk hx σ F H st D hD => by
  obtain ⟨h1, ds, vs, ⟨cells, j, s, t, rfl, q1, q2, q3, q4, q5⟩, h2, h3⟩ := st.sl i _ he
  exact h cells j s t q1 q2 q3 q4 q5 W tk hx σ F H (st.weak he (fun a m => m) fun _ => ⟨h1, vs, h2, h3⟩) D hD
end
theorem szOk {n m : Nat} (h : Nat.ble n m = true) : n ≤ m := Nat.le_of_ble_eq_true h
theorem nd_t {p : Prop} [Decidable p] (h : (!decide p) = true) : ¬ p := by simpa using h
theorem nd_f {p : Prop} [Decidable p] (h : (!decide p) = false) : p := by simpa using h
theorem nb {m : Int} (h : m.natAbs < 2 ^ 120) : m.natAbs < 2 ^ 8000 := Nat.lt_of_lt_of_le h (Nat.pow_le_pow_right (by decide) (by decide))
/-! rows given by a function -/
abbrev rg (m : Nat) (f : Nat → PyData) : List PyData := (List.range m).map f
theorem rg_len (m : Nat) (f : Nat → PyData) : (rg m f).length = m := by simp
theorem rg_succ (m : Nat) (f : Nat → PyData) : rg m f ++ [f m] = rg (m + 1) f := by simp [rg, List.range_succ]
theorem rgi_succ (i : Nat) (f : Nat → Int) : ((List.range i).map f).map PyData.int ++ [.int (f i)] = ((List.range (i + 1)).map f).map PyData.int := by simp [List.range_succ]
theorem at_nat {α : Type} {xs : List α} {i : Int} {x : α} (h0 : 0 ≤ i) (h : xs[i.toNat]? = some x) : atI xs i = some x := by
  have hl := (List.getElem?_eq_some_iff.mp h).1
  unfold atI ixN
  rw [if_pos h0, if_pos (by omega)]
  exact h
theorem at_rg {m : Nat} {f : Nat → PyData} {i : Int} (h0 : 0 ≤ i) (h1 : i < m) : atI (rg m f) i = some (f i.toNat) := at_nat h0 (by
  have hl : i.toNat < m := by omega
  simp [rg, hl])
theorem at_last {α : Type} {xs : List α} {x : α} : atI (xs ++ [x]) (-1) = some x := by
  unfold atI ixN
  rw [if_neg (by omega), List.length_append, if_pos (by simp; omega)]
  have e : (-1 + ((xs.length + [x].length : Nat) : Int)).toNat = xs.length := by simp; omega
  show (xs ++ [x])[(-1 + ((xs.length + [x].length : Nat) : Int)).toNat]? = some x
  rw [e]; simp
theorem at_ints {ns : List Int} {i : Int} (h0 : 0 ≤ i) (h1 : i < ns.length) : ∃ n, n ∈ ns ∧ ns[i.toNat]? = some n ∧ atI (ns.map PyData.int) i = some (.int n) := by
  have hl : i.toNat < ns.length := by omega
  refine ⟨ns[i.toNat], List.getElem_mem hl, by simp [hl], at_nat h0 (by simp [hl])⟩
/-! parts of slices, comprehensions over lists -/
theorem wp_none {X : Cx} {g : G} {env : List Sl} {Φ : Option Int → Prop} {Ψ : Exc → Prop} (h : Φ none) : WP X g none env Φ Ψ := h
theorem wp_e {X : Cx} {g : G} {env : List Sl} {e : Expr} {Φ : Option Int → Prop} {Ψ : Exc → Prop} (h : WE X g e env (fun d _ => ∃ i, d = .int i ∧ Φ (some i)) Ψ) : WP X g (some e) env Φ Ψ := h
theorem cut_le {α : Type} (xs : List α) (k : Int) (h0 : 0 ≤ k) (h : (xs.length : Int) ≤ k) : cut xs none (some k) = xs := by
  unfold cut HT.sIx
  have e : ¬ k < 0 := by omega
  simp only [e, if_false]
  rw [List.drop_zero, Nat.min_eq_right (by omega), Nat.sub_zero, List.take_length]
theorem ints_get {ns : List Int} {i : Nat} {x : PyData} (h : (ns.map PyData.int)[i]? = some x) : ∃ n, x = .int n ∧ ns[i]? = some n := by
  obtain ⟨n, h1, h2⟩ := map_get h
  exact ⟨n, h2.symm, h1⟩
theorem tk_succ {α : Type} {ns : List α} {i : Nat} {n : α} (f : α → PyData) (h : ns[i]? = some n) : (ns.take i).map f ++ [f n] = (ns.take (i + 1)).map f := by
  rw [List.take_succ, h]
  simp
/-! pairs of numbers -/
def ppD (p : Int × Int) : PyData := .tuple [.int p.1, .int p.2]
theorem pairs_alike (ps : List (Int × Int)) : PySem.W.AllAlike (ps.map ppD) := fun d hd d' hd' => by
  obtain ⟨p, _, rfl⟩ := List.mem_map.mp hd
  obtain ⟨q, _, rfl⟩ := List.mem_map.mp hd'
  rfl
theorem pairs_sortable (ps : List (Int × Int)) : PySem.W.Sortable (ps.map ppD) := .inl fun d hd => by
  obtain ⟨p, _, rfl⟩ := List.mem_map.mp hd
  exact ⟨_, _, rfl⟩
theorem pairs_depth (ps : List (Int × Int)) : ∀ d ∈ ps.map ppD, d.depth ≤ 64 := fun d hd => by
  obtain ⟨p, _, rfl⟩ := List.mem_map.mp hd
  exact Nat.le_of_ble_eq_true rfl
section
variable {Φ : PyData → Bool → Prop} {m : Nat} {f : Nat → PyData} {k : Int} {z1 z2 : Bool}
theorem ix_rg (h0 : 0 ≤ k) (h1 : k < m) (h : Φ (f k.toNat) true) : IxP Φ (.list (rg m f)) z1 (.int k) z2 := .lst h (at_rg h0 h1)
theorem ix_lst (h0 : 0 ≤ k) {xs : List PyData} {x : PyData} (h : xs[k.toNat]? = some x) (hp : Φ x true) : IxP Φ (.list xs) z1 (.int k) z2 := .lst hp (at_nat h0 h)
theorem ix_tup (h0 : 0 ≤ k) {xs : List PyData} {x : PyData} (h : xs[k.toNat]? = some x) (hp : Φ x true) : IxP Φ (.tuple xs) z1 (.int k) z2 := .tup hp (at_nat h0 h)
def isInt : PyData → Bool
  | .int _ => true
  | _ => false
/-- an item of a row of ints, any -/
theorem ix_any (n : Nat) (h0 : 0 ≤ k) (h1 : k < n) {xs : List PyData} (hp : ∀ n, Φ (.int n) true) (hn : xs.length = n := by rfl) (hx : xs.all isInt = true := by rfl) : IxP Φ (.list xs) z1 (.int k) z2 := by
  have hl : k.toNat < xs.length := by omega
  have hi := List.all_eq_true.mp hx _ (List.getElem_mem hl)
  obtain ⟨v, hv⟩ : ∃ v, xs[k.toNat] = .int v := by
    cases e : xs[k.toNat] with
    | int v => exact ⟨v, rfl⟩
    | _ => rw [e] at hi; cases hi
  exact .lst (hp v) (at_nat h0 (by rw [← hv]; simp [hl]))
/-- a power of literals -/
theorem powP {i j v : Int} (hv : i ^ j.toNat = v) (h : Φ (.int v) true) (hc : CPow i j) : IntP CPow (fun i j => i ^ j.toNat) Φ (.int i) z1 (.int j) z2 := ⟨by rw [hv]; exact h, hc⟩
theorem ix_ints (h0 : 0 ≤ k) {ns : List Int} (h1 : k < ns.length) (hp : ∀ n ∈ ns, Φ (.int n) true) : IxP Φ (.list (ns.map .int)) z1 (.int k) z2 := by
  obtain ⟨n, q1, _, q2⟩ := at_ints h0 h1
  exact .lst (hp n q1) q2
end

/-! the end: a law's def, by a contract whose ways may be left by own classes -/
theorem walk_x {l : PySem.W.OpenLaw} {m j : Nat} {q : Program} {lo : List Str} {XP : (Str → Option Value) → Heap → Prop} {YP : World → Heap → Prop} {d : DefRec} {x : Str} (h1 : l.most = some m) (h2 : m ≤ sizeLine) (h3 : d.params.defaults = []) (h4 : Room j callerA)
    (h : ∀ (u : World) (mg : Str → Option Value) (a : Addr) (hp : Heap), YP u hp → hp.Ns mainGlobals mg → mg d.name = some (.ref a) → ∃ (K : PySem.W.Frag) (fd : FuncData) (S : Sp), K.In hp ∧ (∀ (s : Shared) (y : Value), BindsTo s fd ⟨[y], []⟩ [(x, y)]) ∧
      (∀ (H : Hp) (b : Addr) (ns : List Int), ns.length ≤ m → SqL K H b (ns.map V.int) → S [.ref b] H (fun v _ => v = .bl true) fun _ _ _ => False) ∧ ∀ bs : Heap, K.In bs → bs.Ns mainGlobals mg → FnOk l.prog u K mg bs (L2.CX l.prog u) j a fd [x] S) :
    PySem.W.WalkO q lo XP YP l.row.toRowW d [] (fun f vs => PySem.call f vs) := by
  refine Att.attach_callB h1 h3 fun u t0 t1 mg mb a o pm cd dc b vs ns G Y ho hd hcd hmg hob hin hle _ hg => ?_
  obtain ⟨K, fd, S, KX, hb, hS, hF⟩ := h u mg a _ Y G.T.g hmg
  have hl2 := Nat.le_trans hle h2
  have T := G.T
  refine law_call KX T.g T.b T.builtins T.nolimit hg hob hin hl2 h4 hF hb (fun H _ hs => hS H b ns hle hs) fun H e t z => ?_
  obtain ⟨_, _, _, _, _, _, _, _, _, _, _, _, z⟩ := z
  exact z
theorem exk_of {K : Frag} {mg : Str → Option Value} {x : Str} (g : mg x = some (.ref (He.ga K x))) (h : PySem.W.excIn K (He.ga K x) He.veBase "ValueError.__new__" = true ∧ PySem.W.keepIn K (.ref (He.ga K x)) = true ∧ PySem.W.subIn K (.ref (He.ga K x)) (.type "BaseException") = some true ∧ PySem.W.typeIn K (.ref (He.ga K x)) = some (.type "type")) : ExK K mg x := ⟨g, h.1, h.2.1, h.2.2.1, h.2.2.2⟩
theorem Has.mono {P : Program} {w : World} {K : Frag} {mg : Str → Option Value} {base : Heap} {j k : Nat} {x : Str} {ps : List Str} {S : CT} (h : Has P w K mg base j x ps S) (le : j ≤ k) : Has P w K mg base k x ps S := by
  obtain ⟨f, fd, h1, h2, h3, h4⟩ := h.ex
  exact ⟨f, fd, h1, h2, h3, h4.mono le⟩
end TL

namespace Tx
open PySem PySem.Spec PyProof.Rows L2
set_option maxRecDepth 100000
def topS (i : Nat) : Stmt := PySem.Challenge.pw_pinchfold_k10_counts_refused.main.body.getD i (.Pass ⟨0, 0, 0, 0⟩)
abbrev s_pair_of : Stmt := topS 7
abbrev s_need_faces : Stmt := topS 9
abbrev s_ways_row : Stmt := topS 10
abbrev s_how_many : Stmt := topS 11
abbrev s_cut_by : Stmt := topS 12
abbrev s_plan_numbered : Stmt := topS 13
abbrev s_unlike : Stmt := topS 14
abbrev s__law_bag : Stmt := topS 16
abbrev s__law_count_word : Stmt := topS 17
abbrev s__law_pull : Stmt := topS 18
abbrev s__law_ways : Stmt := topS 19
abbrev s_law : Stmt := topS 20
theorem sc_pair_of : FnScope ["one", "other"] ["one", "other"] (defScope s_pair_of) := ⟨rfl, rfl, rfl, by decide +kernel, rfl, by decide +kernel, by decide +kernel⟩
theorem sc_need_faces : FnScope ["faces"] ["faces"] (defScope s_need_faces) := ⟨rfl, rfl, rfl, by decide +kernel, rfl, by decide +kernel, by decide +kernel⟩
theorem sc_ways_row : FnScope ["most", "row", "many", "first"] ["most"] (defScope s_ways_row) := ⟨rfl, rfl, rfl, by decide +kernel, rfl, by decide +kernel, by decide +kernel⟩
theorem sc_how_many : FnScope ["faces"] ["faces"] (defScope s_how_many) := ⟨rfl, rfl, rfl, by decide +kernel, rfl, by decide +kernel, by decide +kernel⟩
theorem sc_cut_by : FnScope ["row", "start", "steps", "number", "first", "late", "found"] ["row", "start", "steps", "number"] (defScope s_cut_by) := ⟨rfl, rfl, rfl, by decide +kernel, rfl, by decide +kernel, by decide +kernel⟩
theorem sc_plan_numbered : FnScope ["faces", "number", "row", "cuts", "low", "high"] ["faces", "number"] (defScope s_plan_numbered) := ⟨rfl, rfl, rfl, by decide +kernel, rfl, by decide +kernel, by decide +kernel⟩
theorem sc_unlike : FnScope ["faces", "row", "found"] ["faces"] (defScope s_unlike) := ⟨rfl, rfl, rfl, by decide +kernel, rfl, by decide +kernel, by decide +kernel⟩
theorem sc__law_bag : FnScope ["_law_script", "_law_cells", "_law_one", "_law_salt"] ["_law_script"] (defScope s__law_bag) := ⟨rfl, rfl, rfl, by decide +kernel, rfl, by decide +kernel, by decide +kernel⟩
theorem sc__law_count_word : FnScope ["_law_which", "_law_faces", "_law_number", "_law_word"] ["_law_which", "_law_faces", "_law_number"] (defScope s__law_count_word) := ⟨rfl, rfl, rfl, by decide +kernel, rfl, by decide +kernel, by decide +kernel⟩
theorem sc__law_pull : FnScope ["_law_bag_here", "_law_many", "_law_seed", "_law_blend", "_law_drawn"] ["_law_bag_here", "_law_many"] (defScope s__law_pull) := ⟨rfl, rfl, rfl, by decide +kernel, rfl, by decide +kernel, by decide +kernel⟩
theorem sc__law_ways : FnScope ["_law_most", "_law_row", "_law_many"] ["_law_most"] (defScope s__law_ways) := ⟨rfl, rfl, rfl, by decide +kernel, rfl, by decide +kernel, by decide +kernel⟩
theorem sc_law : FnScope ["_law_script", "_law_bag_here", "_law_row", "_law_turn", "_law_faces", "_law_due", "_law_which", "_law_most", "_law_number", "_law_want"] ["_law_script"] (defScope s_law) := ⟨rfl, rfl, rfl, by decide +kernel, rfl, by decide +kernel, by decide +kernel⟩
end Tx

namespace Tx
open PySem PySem.Spec PyProof.Rows L2 TL
section
variable {P : Program} {w : World} {K : PySem.W.Frag} {mg : Str → Option Value} {base : Heap} {f : Addr} {fd : FuncData} {k : Nat}
abbrev FnP (K : PySem.W.Frag) (x : Str) (st : Stmt) (f : Addr) (fd : FuncData) : Prop := FunD K x x (defArgs st) (defBody st) (defScope st) [] [] f fd
/-! the row of products -/
def catl : List Int := [0, 1, 1, 2, 5, 14, 42, 132, 429, 1430, 4862, 16796, 58786, 208012, 742900, 2674440, 9694845, 35357670, 129644790, 477638700, 1767263190, 6564120420, 24466267020, 91482563640, 343059613650, 1289904147324, 4861946401452, 18367353072152, 69533550916004, 263747951750360, 1002242216651368, 3814986502092304, 14544636039226909, 55534064877048198, 212336130412243110, 812944042149730764, 3116285494907301262, 11959798385860453492, 45950804324621742364, 176733862787006701400, 680425371729975800390, 2622127042276492108820]
def cc (i : Nat) : Int := catl.getD i 0
abbrev ccD (i : Nat) : PyData := .int (cc i)
theorem cc_rec : ∀ m < 41, 2 ≤ m → ((List.range (m - 1)).map fun (j : Nat) => cc (1 + (j : Int)).toNat * cc ((m : Int) - (1 + (j : Int))).toNat).sum = cc m := by decide +kernel
theorem cc_lt : ∀ m < 42, (cc m).natAbs < 2 ^ 80 := by decide +kernel
theorem cc_pos : ∀ m < 42, 1 ≤ m → 0 < cc m := by decide +kernel
theorem cc_wide (i j : Int) (h : i.toNat < 42) (h2 : j.toNat < 42) : CMulW (cc i.toNat) (cc j.toNat) := wide_mul (cc_lt _ h) (cc_lt _ h2) (by decide) (by decide) (by decide)
theorem cc_div (i : Int) (m : Nat) (h0 : 1 ≤ m) (h : m < 42) : CDivW i (cc m) := wide_div (cc_pos m h h0) (cc_lt m h) (by decide) (by decide)
theorem cc_cat : ∀ m < 40, 1 ≤ m → cc m * 2 * (2 * (m : Int) - 1) / ((m : Int) + 1) = cc (m + 1) := by decide +kernel

/-! need_faces -/
def c_need_faces : CT := fun args Φ Ψ => ∃ n : Int, args = [.d (.int n)] ∧ (3 ≤ n ∧ n ≤ 40 → Φ (.rd .none) args) ∧ (¬ (3 ≤ n ∧ n ≤ 40) → Ψ (.own "BadFaces") args)
theorem ok_need_faces (F : FnP K "need_faces" s_need_faces f fd) (hm : mg "need_faces" = some (.ref f)) (hb : Binds K fd ["faces"] []) (gL : ∃ t, mg "LEAST" = some (.int 3 t)) (gM : ∃ t, mg "MOST" = some (.int 40 t)) (xB : ExK K mg "BadFaces") :
    Has P w K mg base (k + 1) "need_faces" ["faces"] c_need_faces := by
  refine fn_has F hm sc_need_faces hb rfl ?_
  rintro cdv A outer s H E g args Φ Ψ hr hp hM hl ⟨n, rfl, h1, h2⟩
  refine ws_cons (w1_if (wt_not (wt_ch (op_le) (op_le) ?_)) )
  refine we_gint gL ?_
  refine we_n 0 ?_
  refine ⟨_, cp_le, fun b1 => ?_, fun b1 => ?_⟩
  · refine we_gint gM ?_
    refine ⟨_, cp_le, fun b2 => ?_, fun b2 => ?_⟩
    · refine ws_cons (w1_raise rfl xB ?_)
      simp at b1 b2
      exact ⟨_, h2 (by omega), rfl, rfl⟩
    · refine ws_nil (ws_nil ?_)
      simp at b1 b2
      exact ⟨_, h1 (by omega), rfl, rfl⟩
  · refine ⟨fun b2 => ?_, fun b2 => ?_⟩
    · refine ws_cons (w1_raise rfl xB ?_)
      simp at b1 b2
      exact ⟨_, h2 (by omega), rfl, rfl⟩
    · cases b2

/-! pair_of -/
def c_pair_of : CT := fun args Φ Ψ => ∃ i j : Int, args = [.d (.int i), .d (.int j)] ∧ Φ (.rd (ppD (if j < i then j else i, if j > i then j else i))) args
theorem ok_pair_of (F : FnP K "pair_of" s_pair_of f fd) (hm : mg "pair_of" = some (.ref f)) (hb : Binds K fd ["one", "other"] []) (m_min : mg "min" = none) (m_max : mg "max" = none) :
    Has P w K mg base (k + 1) "pair_of" ["one", "other"] c_pair_of := by
  refine fn_has F hm sc_pair_of hb rfl ?_
  rintro cdv A outer s H E g args Φ Ψ hr hp hM hl ⟨i, j, rfl, hΦ⟩
  refine ws_cons (w1_ret ?_)
  refine we_tuple ?_
  refine wa_d ?_
  refine we_min2 m_min rfl ?_
  refine we_n 0 ?_
  refine we_n 1 ?_
  refine ⟨i, j, rfl, rfl, rfl, ?_⟩
  refine wa_d ?_
  refine we_max2 m_max rfl ?_
  refine we_n 0 ?_
  refine we_n 1 ?_
  refine ⟨i, j, rfl, rfl, rfl, ?_⟩
  refine wa_nil ?_
  refine ⟨_, rfl, szOk rfl, rfl, ?_⟩
  exact ⟨_, hΦ, trivial, rfl, rfl, rfl⟩

/-! ways_row -/
def c_ways_row : CT := fun args Φ Ψ => ∃ n : Nat, args = [.d (.int n)] ∧ 1 ≤ n ∧ n ≤ 39 ∧ Φ (.nl (rg (n + 1) ccD)) args
theorem ok_ways_row (F : FnP K "ways_row" s_ways_row f fd) (hm : mg "ways_row" = some (.ref f)) (hb : Binds K fd ["most"] []) (m_len : mg "len" = none) (m_sum : mg "sum" = none) (m_range : mg "range" = none) :
    Has P w K mg base (k + 1) "ways_row" ["most"] c_ways_row := by
  refine fn_has F hm sc_ways_row hb rfl ?_
  rintro cdv A outer s H E g args Φ Ψ hr hp hM hl ⟨n, rfl, n1, n2, hΦ⟩
  have hsl := sizeLine_eq
  refine ws_cons (w1_setN 1 sc_ways_row.nd ?_)
  refine wn_list ?_
  refine wa_d ?_
  refine we_int ?_
  refine ⟨rfl, ?_⟩
  refine wa_d ?_
  refine we_int ?_
  refine ⟨rfl, ?_⟩
  refine wa_nil ?_
  refine ⟨_, rfl, szOk rfl, ?_⟩
  intro a_row n_row
  refine ws_cons (w1_while hp (fun m e => ∃ (q : Nat) (s2 : Sl), m = n + 1 - q ∧ 2 ≤ q ∧ q ≤ n + 1 ∧ e = [.d (.int n), .ol a_row (rg q ccD), s2, .un]) (n + 1 - 2) ⟨2, .un, rfl, by omega, by omega, rfl⟩ ?_)
  rintro m _ ⟨q, s2, rfl, q1, q2, rfl⟩
  refine wt_cp op_le ?_
  refine we_len m_len ?_
  refine we_nl 1 ?_
  refine .lst ?_
  refine we_n 0 ?_
  refine ⟨_, cp_le, ?_⟩
  rw [rg_len]
  refine ⟨fun b => ?_, fun b => ?_⟩
  · -- turn
    have b := of_decide_eq_true b
    refine ws_cons (w1_set 2 sc_ways_row.nd ?_)
    refine we_len m_len ?_
    refine we_nl 1 ?_
    refine .lst ?_
    rw [rg_len]
    refine ⟨rfl, ?_⟩
    refine ws_cons (w1_append 1 rfl ?_)
    refine we_sum m_sum rfl ?_
    refine we_of_wn ?_
    refine wn_lcR2 m_range (own := [("first", 3)]) rfl sc_ways_row.nd (blkOk_by (by rfl)) (fun _ _ _ _ _ => (pg_name (i := 3) sc_ways_row.nd rfl (Or.inl rfl))) (tgd_name 3) (by decide) rfl ?_
    refine we_int ?_
    refine ⟨_, rfl, ?_⟩
    refine we_n 2 ?_
    refine ⟨_, fun i acc => acc = ((List.range i).map fun (j : Nat) => cc (1 + (j : Int)).toNat * cc ((q : Int) - (1 + (j : Int))).toNat).map .int, rfl, by omega, rfl, fun i hi => ⟨_, rfl, rfl, ?_⟩, fun acc ha => ?_⟩
    · intro acc ha g1 s1 H1 C1 cl1 fp1
      refine ⟨fun _ s1 H1 C1 cl1 fp1 => ?_, fun z => by cases z⟩
      refine we_mulW ?_
      refine we_ix ?_
      refine we_nl 1 ?_
      refine we_n 3 ?_
      refine ix_rg (by omega) (by omega) ?_
      refine we_ix ?_
      refine we_nl 1 ?_
      refine we_sub ?_
      refine we_n 2 ?_
      refine we_n 3 ?_
      refine ⟨?_, trivial⟩
      refine ix_rg (by omega) (by omega) ?_
      refine ⟨?_, cc_wide _ _ (by omega) (by omega)⟩
      refine ⟨rfl, ?_⟩
      subst ha
      exact rgi_succ i _
    · subst ha
      refine ⟨_, rfl, ?_⟩
      have e : ((q : Int) - 1).toNat = q - 1 := by omega
      rw [e, cc_rec q (by omega) q1]
      refine ⟨rfl, by rw [rg_len]; omega, ?_⟩
      refine ws_nil ?_
      exact ⟨n + 1 - (q + 1), by omega, q + 1, .d (.int q), rfl, by omega, by omega, by rw [← rg_succ]; rfl⟩
  · -- behind
    have b := of_decide_eq_false b
    have e : q = n + 1 := by omega
    subst e
    refine ws_cons (w1_retO 1 rfl n_row ?_)
    exact ⟨_, hΦ, trivial, rfl, rfl⟩

/-! how_many -/
def c_how_many : CT := fun args Φ Ψ => ∃ n : Int, args = [.d (.int n)] ∧ (3 ≤ n ∧ n ≤ 40 → Φ (.rd (.int (cc (n - 1).toNat))) args) ∧ (¬ (3 ≤ n ∧ n ≤ 40) → Ψ (.own "BadFaces") args)
theorem ok_how_many (F : FnP K "how_many" s_how_many f fd) (hm : mg "how_many" = some (.ref f)) (hb : Binds K fd ["faces"] []) {j : Nat} (hj : j ≤ k) (h_need_faces : Has P w K mg base j "need_faces" ["faces"] c_need_faces) (h_ways_row : Has P w K mg base j "ways_row" ["most"] c_ways_row) :
    Has P w K mg base (k + 1) "how_many" ["faces"] c_how_many := by
  refine fn_has F hm sc_how_many hb rfl ?_
  rintro cdv A outer s H E g args Φ Ψ hr hp hM hl ⟨n, rfl, h1, h2⟩
  refine ws_cons (w1_expr ?_)
  refine we_call h_need_faces hr ?_ hj
  refine wa_d ?_
  refine we_n 0 ?_
  refine ⟨rfl, ?_⟩
  refine wa_nil ?_
  refine ⟨rfl, n, rfl, fun b => ⟨rfl, _, rfl, ?_⟩, fun b => ⟨rfl, _, h2 b, rfl, rfl⟩⟩
  obtain ⟨m, hm1⟩ : ∃ m : Nat, n - 1 = m := ⟨(n - 1).toNat, by omega⟩
  refine ws_cons (w1_ret ?_)
  refine we_ix ?_
  refine we_call h_ways_row hr ?_ hj
  refine wa_d ?_
  refine we_sub ?_
  refine we_n 0 ?_
  refine we_int ?_
  refine ⟨?_, trivial⟩
  refine ⟨rfl, ?_⟩
  refine wa_nil ?_
  refine ⟨rfl, m, congrArg (fun z => [Sl.d (PyData.int z)]) hm1, by omega, by omega, rfl, _, rfl, ?_⟩
  refine we_sub ?_
  refine we_n 0 ?_
  refine we_int ?_
  refine ⟨?_, trivial⟩
  refine ix_rg (by omega) (by omega) ?_
  exact ⟨rfl, _, h1 b, trivial, rfl, rfl⟩

/-! cut_by -/
def pre (s f : Int) : Int := ((List.range (f.toNat - 1)).map fun (j : Nat) => cc (1 + (j : Int)).toNat * cc (s - (1 + (j : Int))).toNat).sum
theorem pre_one (s : Int) : pre s 1 = 0 := rfl
theorem pre_add (s f : Int) (h : 1 ≤ f) : pre s (f + 1) = pre s f + cc f.toNat * cc (s - f).toNat := by
  unfold pre
  have e : (f + 1).toNat - 1 = f.toNat - 1 + 1 := by omega
  rw [e, List.range_succ, List.map_append, List.sum_append]
  have e2 : (1 + ((f.toNat - 1 : Nat) : Int)) = f := by omega
  simp [e2]
theorem pre_all (s : Int) (h : 2 ≤ s) (h2 : s ≤ 40) : pre s s = cc s.toNat := by
  have e := cc_rec s.toNat (by omega) (by omega)
  unfold pre
  rw [show ((s.toNat : Nat) : Int) = s by omega] at e
  exact e
inductive Cut : Int → Int → Int → List (Int × Int) → Prop
  | one {st : Int} {q : Int} : Cut st 1 q []
  | more {st s q f : Int} {a b : List (Int × Int)} : 2 ≤ s → 1 ≤ f → f < s → pre s f ≤ q → q < pre s (f + 1) → Cut st f ((q - pre s f) / cc (s - f).toNat) a → Cut (st + f) (s - f) ((q - pre s f) % cc (s - f).toNat) b →
      Cut st s q (a ++ b ++ (if f > 1 then [(st, st + f)] else []) ++ (if s - f > 1 then [(st + f, st + s)] else []))
theorem Cut.len {st s q : Int} {l : List (Int × Int)} (h : Cut st s q l) : 1 ≤ s ∧ (l.length : Int) ≤ 2 * s - 2 := by
  induction h with
  | one => exact ⟨by decide, by decide⟩
  | @more st s q f a b h1 h2 h3 h4 h5 ha hb ia ib =>
    refine ⟨by omega, ?_⟩
    rw [List.length_append, List.length_append, List.length_append]
    have e1 : (if f > 1 then [(st, st + f)] else []).length ≤ 1 := by split <;> simp
    have e2 : (if s - f > 1 then [(st + f, st + s)] else []).length ≤ 1 := by split <;> simp
    omega
def c_cut_by (n : Nat) : CT := fun args Φ Ψ => ∃ (m : Nat) (st s q : Int), args = [.d (.list (rg m ccD)), .d (.int st), .d (.int s), .d (.int q)] ∧ 1 ≤ s ∧ s ≤ n ∧ s < m ∧ m ≤ 41 ∧ 0 ≤ q ∧ q < cc s.toNat ∧ ∀ ps, Cut st s q ps → Φ (.nl (ps.map ppD)) args
--@ args=0 40 level=41
theorem ok_cut_by (F : FnP K "cut_by" s_cut_by f fd) (hm : mg "cut_by" = some (.ref f)) (hb : Binds K fd ["row", "start", "steps", "number"] []) (k0 : Nat) : ∀ n : Nat, Has P w K mg base (k0 + n + 1) "cut_by" ["row", "start", "steps", "number"] (c_cut_by n)
  | 0 => by
    refine fn_has F hm sc_cut_by hb rfl ?_
    rintro cdv A outer s H E g args Φ Ψ hr hp hM hl ⟨m, st, s, q, rfl, h1, h2, _⟩
    omega
  | n + 1 => by
    have ih := ok_cut_by F hm hb k0 n
    refine fn_has F hm sc_cut_by hb rfl ?_
    rintro cdv A outer sh H E g args Φ Ψ hr hp hM hl ⟨m, st, s, q, rfl, s1, s2, s3, hm41, q0, q1, hΦ⟩
    have hsl := sizeLine_eq
    refine ws_cons (w1_if ?_)
    refine wt_cp (op_eqA hr) ?_
    refine we_n 2 ?_
    refine we_int ?_
    refine ⟨_, cp_eqI, ?_⟩
    refine ⟨fun b1 => ?_, fun b1 => ?_⟩
    · -- then
      have b1 := of_decide_eq_true b1
      subst b1
      refine ws_cons (w1_retN ?_)
      refine wn_list ?_
      refine wa_nil ?_
      refine ⟨_, rfl, szOk rfl, ?_⟩
      exact ⟨_, hΦ _ .one, trivial, rfl, rfl, rfl, rfl, rfl⟩
    · -- else
      have b1 := of_decide_eq_false b1
      refine ws_nil ?_
      refine ws_cons (w1_set 4 sc_cut_by.nd ?_)
      refine we_int ?_
      refine ⟨rfl, ?_⟩
      refine ws_mid (fun e => ∃ f : Int, 1 ≤ f ∧ f < s ∧ pre s f ≤ q ∧ q < pre s (f + 1) ∧ e = [.d (.list (rg m ccD)), .d (.int st), .d (.int s), .d (.int (q - pre s f)), .d (.int f), .un, .un])
        (w1_while hp (fun n e => ∃ f : Int, n = (s - f).toNat ∧ 1 ≤ f ∧ f ≤ s ∧ pre s f ≤ q ∧ e = [.d (.list (rg m ccD)), .d (.int st), .d (.int s), .d (.int (q - pre s f)), .d (.int f), .un, .un]) (s - 1).toNat ⟨1, rfl, by decide, s1, by rw [pre_one]; exact q0, by rw [pre_one, Int.sub_zero]; rfl⟩ ?_) ?_
      · rintro n' _ ⟨f, rfl, f1, f2, f3, rfl⟩
        have fs : f < s := by
          rcases Int.lt_or_eq_of_le f2 with h | h
          · exact h
          · rw [h, pre_all s (by omega) (by omega)] at f3; omega
        refine wt_cp op_ge ?_
        refine we_n 3 ?_
        refine we_mulW ?_
        refine we_ix ?_
        refine we_n 0 ?_
        refine we_n 4 ?_
        refine ix_rg (by omega) (by omega) ?_
        refine we_ix ?_
        refine we_n 0 ?_
        refine we_sub ?_
        refine we_n 2 ?_
        refine we_n 4 ?_
        refine ⟨?_, trivial⟩
        refine ix_rg (by omega) (by omega) ?_
        refine ⟨?_, cc_wide _ _ (by omega) (by omega)⟩
        refine ⟨_, cp_ge, ?_⟩
        refine ⟨fun b => ?_, fun b => ?_⟩
        · -- turn
          have b := of_decide_eq_true b
          refine ws_cons (w1_sub 3 sc_cut_by.nd rfl ?_)
          refine we_mulW ?_
          refine we_ix ?_
          refine we_n 0 ?_
          refine we_n 4 ?_
          refine ix_rg (by omega) (by omega) ?_
          refine we_ix ?_
          refine we_n 0 ?_
          refine we_sub ?_
          refine we_n 2 ?_
          refine we_n 4 ?_
          refine ⟨?_, trivial⟩
          refine ix_rg (by omega) (by omega) ?_
          refine ⟨?_, cc_wide _ _ (by omega) (by omega)⟩
          refine ⟨_, rfl, ?_⟩
          refine ws_cons (w1_add 4 sc_cut_by.nd rfl ?_)
          refine we_int ?_
          refine ⟨_, rfl, ?_⟩
          refine ws_nil ?_
          have e := pre_add s f f1
          refine ⟨(s - (f + 1)).toNat, by omega, f + 1, rfl, by omega, by omega, by omega, ?_⟩
          rw [e, ← Int.sub_sub]
          rfl
        · -- behind
          have b := of_decide_eq_false b
          have e := pre_add s f f1
          exact ⟨f, f1, fs, f3, by omega, rfl⟩
      rintro _ ⟨f, f1, f2, f3, f4, rfl⟩
      have e0 := pre_add s f f1
      have c0 : 0 < cc (s - f).toNat := cc_pos _ (by omega) (by omega)
      refine ws_cons (w1_set 5 sc_cut_by.nd ?_)
      refine we_ix ?_
      refine we_n 0 ?_
      refine we_sub ?_
      refine we_n 2 ?_
      refine we_n 4 ?_
      refine ⟨?_, trivial⟩
      refine ix_rg (by omega) (by omega) ?_
      refine ⟨rfl, ?_⟩
      refine ws_cons (w1_setN 6 sc_cut_by.nd ?_)
      refine wn_add ?_
      refine we_call ih hr ?_
      refine wa_d ?_
      refine we_n 0 ?_
      refine ⟨rfl, ?_⟩
      refine wa_d ?_
      refine we_n 1 ?_
      refine ⟨rfl, ?_⟩
      refine wa_d ?_
      refine we_n 4 ?_
      refine ⟨rfl, ?_⟩
      refine wa_d ?_
      refine we_div ?_
      refine we_n 3 ?_
      refine we_n 5 ?_
      refine ⟨?_, cc_div _ _ (by omega) (by omega)⟩
      refine ⟨rfl, ?_⟩
      refine wa_nil ?_
      refine ⟨rfl, m, st, f, (q - pre s f) / cc (s - f).toNat, rfl, f1, by omega, by omega, hm41, Int.ediv_nonneg (by omega) (by omega), Int.ediv_lt_of_lt_mul c0 (by omega), fun a ha => ⟨rfl, _, rfl, _, rfl, ?_⟩⟩
      refine we_call ih hr ?_
      refine wa_d ?_
      refine we_n 0 ?_
      refine ⟨rfl, ?_⟩
      refine wa_d ?_
      refine we_add ?_
      refine we_n 1 ?_
      refine we_n 4 ?_
      refine .int ?_
      refine ⟨rfl, ?_⟩
      refine wa_d ?_
      refine we_sub ?_
      refine we_n 2 ?_
      refine we_n 4 ?_
      refine ⟨?_, trivial⟩
      refine ⟨rfl, ?_⟩
      refine wa_d ?_
      refine we_mod ?_
      refine we_n 3 ?_
      refine we_n 5 ?_
      refine ⟨?_, c0⟩
      refine ⟨rfl, ?_⟩
      refine wa_nil ?_
      refine ⟨rfl, m, st + f, s - f, (q - pre s f) % cc (s - f).toNat, rfl, by omega, by omega, by omega, hm41, Int.emod_nonneg _ (by omega), Int.emod_lt_of_pos _ c0, fun b hb => ⟨rfl, _, rfl, _, rfl, ?_⟩⟩
      have hc := Cut.more (by omega) f1 f2 f3 f4 ha hb
      have la := ha.len
      have lb := hb.len
      refine ⟨by rw [List.length_map, List.length_map]; omega, ?_⟩
      intro a_found n_found
      rw [← List.map_append]
      refine ws_mid (fun e => e = [.d (.list (rg m ccD)), .d (.int st), .d (.int s), .d (.int (q - pre s f)), .d (.int f), .d (.int (cc (s - f).toNat)), .ol a_found ((a ++ b ++ (if f > 1 then [(st, st + f)] else [])).map ppD)]) (w1_if ?_) ?_
      · refine wt_cp op_gt ?_
        refine we_n 4 ?_
        refine we_int ?_
        refine ⟨_, cp_gt, ?_⟩
        refine ⟨fun b2 => ?_, fun b2 => ?_⟩
        · -- then
          have b2 := of_decide_eq_true b2
          refine ws_cons (w1_append 6 rfl ?_)
          refine we_tuple ?_
          refine wa_d ?_
          refine we_n 1 ?_
          refine ⟨rfl, ?_⟩
          refine wa_d ?_
          refine we_add ?_
          refine we_n 1 ?_
          refine we_n 4 ?_
          refine .int ?_
          refine ⟨rfl, ?_⟩
          refine wa_nil ?_
          refine ⟨_, rfl, szOk rfl, ?_⟩
          refine ⟨rfl, by rw [List.length_map, List.length_append]; omega, ?_⟩
          refine ws_nil ?_
          rw [if_pos b2, List.map_append (l₂ := [(st, st + f)])]
          rfl
        · have b2 := of_decide_eq_false b2
          refine ws_nil ?_
          rw [if_neg b2, List.append_nil]
          try rfl
      rintro _ rfl
      have l1 : (if f > 1 then [(st, st + f)] else []).length ≤ 1 := by split <;> simp
      refine ws_mid (fun e => e = [.d (.list (rg m ccD)), .d (.int st), .d (.int s), .d (.int (q - pre s f)), .d (.int f), .d (.int (cc (s - f).toNat)), .ol a_found ((a ++ b ++ (if f > 1 then [(st, st + f)] else []) ++ (if s - f > 1 then [(st + f, st + s)] else [])).map ppD)]) (w1_if ?_) ?_
      · refine wt_cp op_gt ?_
        refine we_sub ?_
        refine we_n 2 ?_
        refine we_n 4 ?_
        refine ⟨?_, trivial⟩
        refine we_int ?_
        refine ⟨_, cp_gt, ?_⟩
        refine ⟨fun b2 => ?_, fun b2 => ?_⟩
        · -- then
          have b2 := of_decide_eq_true b2
          refine ws_cons (w1_append 6 rfl ?_)
          refine we_tuple ?_
          refine wa_d ?_
          refine we_add ?_
          refine we_n 1 ?_
          refine we_n 4 ?_
          refine .int ?_
          refine ⟨rfl, ?_⟩
          refine wa_d ?_
          refine we_add ?_
          refine we_n 1 ?_
          refine we_n 2 ?_
          refine .int ?_
          refine ⟨rfl, ?_⟩
          refine wa_nil ?_
          refine ⟨_, rfl, szOk rfl, ?_⟩
          refine ⟨rfl, by rw [List.length_map, List.length_append, List.length_append]; omega, ?_⟩
          refine ws_nil ?_
          rw [if_pos b2, List.map_append (l₂ := [(st + f, st + s)])]
          rfl
        · have b2 := of_decide_eq_false b2
          refine ws_nil ?_
          rw [if_neg b2, List.append_nil]
          try rfl
      rintro _ rfl
      refine ws_cons (w1_retO 6 rfl n_found ?_)
      exact ⟨_, hΦ _ hc, trivial, rfl, rfl, rfl, rfl, rfl⟩

/-! plan_numbered -/
def nrm (n : Int) (p : Int × Int) : Int × Int := (if p.2 % n < p.1 then p.2 % n else p.1, if p.2 % n > p.1 then p.2 % n else p.1)
def planD (n : Int) (cs : List PyData) : PyData := .tuple [.int n, .tuple cs]
def c_plan_numbered : CT := fun args Φ Ψ => ∃ n q : Int, args = [.d (.int n), .d (.int q)] ∧ (¬ (3 ≤ n ∧ n ≤ 40) → Ψ (.own "BadFaces") args) ∧ (3 ≤ n ∧ n ≤ 40 → ¬ (0 ≤ q ∧ q < cc (n - 1).toNat) → Ψ (.own "BadNumber") args) ∧
  (3 ≤ n ∧ n ≤ 40 → 0 ≤ q ∧ q < cc (n - 1).toNat → ∀ ps, Cut 1 (n - 1) q ps → Φ (.rd (planD n (srt ((ps.map (nrm n)).map ppD)))) args)
theorem ok_plan_numbered (F : FnP K "plan_numbered" s_plan_numbered f fd) (hm : mg "plan_numbered" = some (.ref f)) (hb : Binds K fd ["faces", "number"] []) {j jc : Nat} (hj : j ≤ k) (hjc : jc ≤ k) (h_need_faces : Has P w K mg base j "need_faces" ["faces"] c_need_faces) (h_ways_row : Has P w K mg base j "ways_row" ["most"] c_ways_row) (x_BadNumber : ExK K mg "BadNumber") (h_pair_of : Has P w K mg base j "pair_of" ["one", "other"] c_pair_of) (m_tuple : mg "tuple" = none) (h_cut_by : Has P w K mg base jc "cut_by" ["row", "start", "steps", "number"] (c_cut_by 40)) (m_sorted : mg "sorted" = none) :
    Has P w K mg base (k + 1) "plan_numbered" ["faces", "number"] c_plan_numbered := by
  refine fn_has F hm sc_plan_numbered hb rfl ?_
  rintro cdv A outer s H E g args Φ Ψ hr hp hM hl ⟨n, q, rfl, e1, e2, hΦ⟩
  refine ws_cons (w1_expr ?_)
  refine we_call h_need_faces hr ?_ hj
  refine wa_d ?_
  refine we_n 0 ?_
  refine ⟨rfl, ?_⟩
  refine wa_nil ?_
  refine ⟨rfl, n, rfl, fun b => ⟨rfl, _, rfl, ?_⟩, fun b => ⟨rfl, _, e1 b, rfl, rfl, rfl⟩⟩
  obtain ⟨m, hm1⟩ : ∃ m : Nat, n - 1 = m := ⟨(n - 1).toNat, by omega⟩
  refine ws_cons (w1_set 2 sc_plan_numbered.nd ?_)
  refine we_call h_ways_row hr ?_ hj
  refine wa_d ?_
  refine we_sub ?_
  refine we_n 0 ?_
  refine we_int ?_
  refine ⟨?_, trivial⟩
  refine ⟨rfl, ?_⟩
  refine wa_nil ?_
  refine ⟨rfl, m, congrArg (fun z => [Sl.d (PyData.int z)]) hm1, by omega, by omega, rfl, _, rfl, rfl, ?_⟩
  refine ws_mid (fun e => (0 ≤ q ∧ q < cc (n - 1).toNat) ∧ e = [.d (.int n), .d (.int q), .d (.list (rg (m + 1) ccD)), .un, .un, .un]) (w1_if ?_) ?_
  · refine wt_not ?_
    refine wt_ch op_le (op_ltA hr) ?_
    refine we_int ?_
    refine we_n 1 ?_
    refine ⟨_, cp_le, fun b1 => ?_, fun b1 => ?_⟩
    · have b1 := of_decide_eq_true b1
      refine we_ix ?_
      refine we_n 2 ?_
      refine we_sub ?_
      refine we_n 0 ?_
      refine we_int ?_
      refine ⟨?_, trivial⟩
      refine ix_rg (by omega) (by omega) ?_
      refine ⟨_, cp_lt, fun b2 => ?_, fun b2 => ?_⟩
      · have b2 := nd_t b2
        refine ws_cons (w1_raise rfl x_BadNumber ?_)
        exact ⟨_, e2 b (by omega), rfl, rfl, rfl⟩
      · have b2 := nd_f b2
        exact ws_nil ⟨⟨b1, b2⟩, rfl⟩
    · have b1 := of_decide_eq_false b1
      refine ⟨fun b2 => ?_, fun b2 => by cases b2⟩
      refine ws_cons (w1_raise rfl x_BadNumber ?_)
      exact ⟨_, e2 b (by omega), rfl, rfl, rfl⟩
  rintro _ ⟨hq, rfl⟩
  refine ws_cons (w1_setLc 3 (own := [("low", 4), ("high", 5)]) rfl sc_plan_numbered.nd (pi_list (peI _)) (blkOk_by (by rfl)) (fun _ _ _ _ _ => (pg_tup rfl (pgs_cons (pg_name (i := 4) sc_plan_numbered.nd rfl (Or.inl rfl)) (pgs_cons (pg_name (i := 5) sc_plan_numbered.nd rfl (Or.inl rfl)) pgs_nil)))) (by decide) (nt_lcL (tgd_tup (tgds_cons (tgd_name 4) (tgds_cons (tgd_name 5) tgds_nil)) rfl) rfl ?_))
  refine we_call h_cut_by hr ?_ hjc
  refine wa_d ?_
  refine we_n 2 ?_
  refine ⟨rfl, ?_⟩
  refine wa_d ?_
  refine we_int ?_
  refine ⟨rfl, ?_⟩
  refine wa_d ?_
  refine we_sub ?_
  refine we_n 0 ?_
  refine we_int ?_
  refine ⟨?_, trivial⟩
  refine ⟨rfl, ?_⟩
  refine wa_d ?_
  refine we_n 1 ?_
  refine ⟨rfl, ?_⟩
  refine wa_nil ?_
  refine ⟨rfl, m + 1, 1, n - 1, q, rfl, by omega, by omega, by omega, by omega, hq.1, hq.2, fun ps hps => ⟨rfl, _, rfl, ?_⟩⟩
  refine ⟨rfl, _, fun i acc => acc = (ps.take i).map fun p => ppD (nrm n p), rfl, rfl, fun i x hx => ?_, fun acc ha => ?_⟩
  · obtain ⟨p, hp1, rfl⟩ := map_get hx
    refine ⟨_, rfl, rfl, ?_⟩
    intro acc ha g1 s1 H1 C1 cl1 fp1
    refine ⟨fun _ s1 H1 C1 cl1 fp1 => ?_, fun z => by cases z⟩
    refine we_call h_pair_of hr ?_ hj
    refine wa_d ?_
    refine we_n 4 ?_
    refine ⟨rfl, ?_⟩
    refine wa_d ?_
    refine we_mod ?_
    refine we_n 5 ?_
    refine we_n 0 ?_
    refine ⟨?_, by omega⟩
    refine ⟨rfl, ?_⟩
    refine wa_nil ?_
    refine ⟨rfl, p.1, p.2 % n, rfl, rfl, _, rfl, ?_⟩
    refine ⟨rfl, ?_⟩
    subst ha
    exact tk_succ (fun p => ppD (nrm n p)) hp1
  · subst ha
    rw [List.length_map, List.take_length]
    have em : (ps.map fun p => ppD (nrm n p)) = (ps.map (nrm n)).map ppD := by simp
    rw [em]
    refine ws_cons (w1_ret ?_)
    refine we_tuple ?_
    refine wa_d ?_
    refine we_n 0 ?_
    refine ⟨rfl, ?_⟩
    refine wa_d ?_
    refine we_tupof m_tuple ?_
    refine we_of_wn ?_
    refine wn_sorted m_sorted hr ?_
    refine we_n 3 ?_
    refine ⟨_, rfl, pairs_alike _, pairs_sortable _, pairs_depth _, ?_⟩
    refine .lst ?_
    refine ⟨rfl, ?_⟩
    refine wa_nil ?_
    refine ⟨_, rfl, szOk rfl, ?_⟩
    exact ⟨rfl, _, hΦ b hq ps hps, trivial, rfl, rfl, rfl⟩
theorem cut_ex : ∀ (N : Nat) (st s q : Int), 1 ≤ s → s ≤ N → s ≤ 40 → 0 ≤ q → q < cc s.toNat → ∃ ps, Cut st s q ps
  | 0, st, s, q, h1, h2, _, _, _ => by omega
  | N + 1, st, s, q, h1, h2, h3, h4, h5 => by
    by_cases hs : s = 1
    · subst hs; exact ⟨_, .one⟩
    · have find : ∀ d : Nat, ∀ f : Int, 1 ≤ f → f ≤ s → s - f = d → pre s f ≤ q → ∃ f' : Int, 1 ≤ f' ∧ f' < s ∧ pre s f' ≤ q ∧ q < pre s (f' + 1) := fun d => by
        induction d with
        | zero => intro f f1 f2 f3 f4; rw [show f = s by omega, pre_all s (by omega) h3] at f4; omega
        | succ d ih =>
          intro f f1 f2 f3 f4
          by_cases hq : q < pre s (f + 1)
          · exact ⟨f, f1, by omega, f4, hq⟩
          · exact ih (f + 1) (by omega) (by omega) (by omega) (by omega)
      obtain ⟨f, f1, f2, f3, f4⟩ := find (s - 1).toNat 1 (by decide) h1 (by omega) (by rw [pre_one]; exact h4)
      have e0 := pre_add s f f1
      have c0 : 0 < cc (s - f).toNat := cc_pos _ (by omega) (by omega)
      obtain ⟨a, ha⟩ := cut_ex N st f ((q - pre s f) / cc (s - f).toNat) f1 (by omega) (by omega) (Int.ediv_nonneg (by omega) (by omega)) (Int.ediv_lt_of_lt_mul c0 (by omega))
      obtain ⟨b, hb⟩ := cut_ex N (st + f) (s - f) ((q - pre s f) % cc (s - f).toNat) (by omega) (by omega) (by omega) (Int.emod_nonneg _ (by omega)) (Int.emod_lt_of_pos _ c0)
      exact ⟨_, .more (by omega) f1 f2 f3 f4 ha hb⟩

/-! unlike -/
def unl (n : Int) : Int := (cc (n - 1).toNat + (if n % 2 = 0 then n / 2 * cc (n / 2).toNat else 0) + (if n % 3 = 0 then 2 * (n / 3) * cc (n / 3).toNat else 0)) / n
def c_unlike : CT := fun args Φ Ψ => ∃ n : Int, args = [.d (.int n)] ∧ (3 ≤ n ∧ n ≤ 40 → Φ (.rd (.int (unl n))) args) ∧ (¬ (3 ≤ n ∧ n ≤ 40) → Ψ (.own "BadFaces") args)
theorem ok_unlike (F : FnP K "unlike" s_unlike f fd) (hm : mg "unlike" = some (.ref f)) (hb : Binds K fd ["faces"] []) {j : Nat} (hj : j ≤ k) (h_need_faces : Has P w K mg base j "need_faces" ["faces"] c_need_faces) (h_ways_row : Has P w K mg base j "ways_row" ["most"] c_ways_row) :
    Has P w K mg base (k + 1) "unlike" ["faces"] c_unlike := by
  refine fn_has F hm sc_unlike hb rfl ?_
  rintro cdv A outer s H E g args Φ Ψ hr hp hM hl ⟨n, rfl, h1, h2⟩
  refine ws_cons (w1_expr ?_)
  refine we_call h_need_faces hr ?_ hj
  refine wa_d ?_
  refine we_n 0 ?_
  refine ⟨rfl, ?_⟩
  refine wa_nil ?_
  refine ⟨rfl, n, rfl, fun b => ⟨rfl, _, rfl, ?_⟩, fun b => ⟨rfl, _, h2 b, rfl, rfl⟩⟩
  obtain ⟨m, hm1⟩ : ∃ m : Nat, n - 1 = m := ⟨(n - 1).toNat, by omega⟩
  refine ws_cons (w1_set 1 sc_unlike.nd ?_)
  refine we_call h_ways_row hr ?_ hj
  refine wa_d ?_
  refine we_sub ?_
  refine we_n 0 ?_
  refine we_int ?_
  refine ⟨?_, trivial⟩
  refine ⟨rfl, ?_⟩
  refine wa_nil ?_
  refine ⟨rfl, m, congrArg (fun z => [Sl.d (PyData.int z)]) hm1, by omega, by omega, rfl, _, rfl, rfl, ?_⟩
  refine ws_cons (w1_set 2 sc_unlike.nd ?_)
  refine we_ix ?_
  refine we_n 1 ?_
  refine we_sub ?_
  refine we_n 0 ?_
  refine we_int ?_
  refine ⟨?_, trivial⟩
  refine ix_rg (by omega) (by omega) ?_
  refine ⟨rfl, ?_⟩
  refine ws_mid (fun e => e = [.d (.int n), .d (.list (rg (m + 1) ccD)), .d (.int (cc (n - 1).toNat + (if n % 2 = 0 then n / 2 * cc (n / 2).toNat else 0)))]) (w1_if ?_) ?_
  · refine wt_cp (op_eqA hr) ?_
    refine we_mod ?_
    refine we_n 0 ?_
    refine we_int ?_
    refine ⟨?_, by decide⟩
    refine we_int ?_
    refine ⟨_, cp_eqI, fun c => ?_, fun c => ?_⟩
    · have c := of_decide_eq_true c
      refine ws_cons (w1_add 2 sc_unlike.nd rfl ?_)
      refine we_mul ?_
      refine we_div ?_
      refine we_n 0 ?_
      refine we_int ?_
      refine ⟨?_, cdiv_small _ (by decide) (by decide)⟩
      refine we_ix ?_
      refine we_n 1 ?_
      refine we_div ?_
      refine we_n 0 ?_
      refine we_int ?_
      refine ⟨?_, cdiv_small _ (by decide) (by decide)⟩
      refine ix_rg (by omega) (by omega) ?_
      refine ⟨⟨_, rfl, ?_⟩, by unfold L2.CMul; omega⟩
      refine ws_nil ?_
      rw [if_pos c]
      rfl
    · have c := of_decide_eq_false c
      refine ws_nil ?_
      rw [if_neg c, Int.add_zero]
      try rfl
  rintro _ rfl
  refine ws_mid (fun e => e = [.d (.int n), .d (.list (rg (m + 1) ccD)), .d (.int (cc (n - 1).toNat + (if n % 2 = 0 then n / 2 * cc (n / 2).toNat else 0) + (if n % 3 = 0 then 2 * (n / 3) * cc (n / 3).toNat else 0)))]) (w1_if ?_) ?_
  · refine wt_cp (op_eqA hr) ?_
    refine we_mod ?_
    refine we_n 0 ?_
    refine we_int ?_
    refine ⟨?_, by decide⟩
    refine we_int ?_
    refine ⟨_, cp_eqI, fun c => ?_, fun c => ?_⟩
    · have c := of_decide_eq_true c
      refine ws_cons (w1_add 2 sc_unlike.nd rfl ?_)
      refine we_mul ?_
      refine we_mul ?_
      refine we_int ?_
      refine we_div ?_
      refine we_n 0 ?_
      refine we_int ?_
      refine ⟨?_, cdiv_small _ (by decide) (by decide)⟩
      refine ⟨?_, by unfold L2.CMul; omega⟩
      refine we_ix ?_
      refine we_n 1 ?_
      refine we_div ?_
      refine we_n 0 ?_
      refine we_int ?_
      refine ⟨?_, cdiv_small _ (by decide) (by decide)⟩
      refine ix_rg (by omega) (by omega) ?_
      refine ⟨⟨_, rfl, ?_⟩, by unfold L2.CMul; omega⟩
      refine ws_nil ?_
      rw [if_pos c]
      rfl
    · have c := of_decide_eq_false c
      refine ws_nil ?_
      rw [if_neg c, Int.add_zero]
      try rfl
  rintro _ rfl
  refine ws_cons (w1_ret ?_)
  refine we_div ?_
  refine we_n 2 ?_
  refine we_n 0 ?_
  refine ⟨?_, cdiv_small _ (by omega) (by omega)⟩
  exact ⟨rfl, _, h1 b, trivial, rfl, rfl⟩

/-! _law_bag -/
def absI (c : Int) : Int := if c < 0 then -c else c
theorem absI_nn (c : Int) : 0 ≤ absI c := by unfold absI; split <;> omega
def c__law_bag : CT := fun args Φ Ψ => ∃ ns : List Int, args = [.d (.list (ns.map .int))] ∧ ns.length ≤ 63 ∧ ∀ ds, BagD ds → Φ (.nl ds) args
theorem ok__law_bag (F : FnP K "_law_bag" s__law_bag f fd) (hm : mg "_law_bag" = some (.ref f)) (hb : Binds K fd ["_law_script"] []) (m_len : mg "len" = none) (m_abs : mg "abs" = none) (m_int : mg "int" = none) :
    Has P w K mg base (k + 1) "_law_bag" ["_law_script"] c__law_bag := by
  refine fn_has F hm sc__law_bag hb rfl ?_
  rintro cdv A outer s H E g args Φ Ψ hr hp hM hl ⟨ns, rfl, hn, hΦ⟩
  have hcut : cut (ns.map PyData.int) none (some 63) = ns.map .int := cut_le _ _ (by decide) (by simp; omega)
  refine ws_cons (w1_setLc 1 (own := [("_law_one", 2)]) rfl sc__law_bag.nd (pi_list (peI _)) (blkOk_by (by rfl)) (fun _ _ _ _ _ => (pg_name (i := 2) sc__law_bag.nd rfl (Or.inl rfl))) (by decide) (nt_lcL (tgd_name 2) rfl ?_))
  refine we_of_wn ?_
  refine wn_sliceL ?_
  refine we_n 0 ?_
  refine ⟨_, rfl, ?_⟩
  refine wp_none ?_
  refine wp_e ?_
  refine we_int ?_
  refine ⟨_, rfl, ?_⟩
  refine ⟨rfl, _, fun i acc => acc = (ns.take i).map fun c => .int (absI c), rfl, rfl, fun i x hx => ⟨_, rfl, rfl, ?_⟩, fun acc ha => ?_⟩
  · intro acc ha g1 s1 H1 C1 cl1 fp1
    rw [hcut] at hx
    obtain ⟨n, rfl, hn2⟩ := ints_get hx
    refine ⟨fun _ s1 H1 C1 cl1 fp1 => ?_, fun z => by cases z⟩
    refine we_abs m_abs ?_
    refine we_n 2 ?_
    refine ⟨_, rfl, ?_⟩
    refine ⟨rfl, ?_⟩
    subst ha
    exact tk_succ (fun c => .int (absI c)) hn2
  · subst ha
    rw [hcut, List.length_map, List.take_length]
    have em : (ns.map fun c => PyData.int (absI c)) = (ns.map absI).map .int := by simp
    rw [em]
    refine ws_cons (w1_set 3 sc__law_bag.nd ?_)
    refine we_add ?_
    refine we_int ?_
    refine we_len m_len ?_
    refine we_n 1 ?_
    refine .lst ?_
    refine .int ?_
    refine ⟨rfl, ?_⟩
    refine ws_cons (w1_forL hp rfl (pg_name (i := 2) sc__law_bag.nd rfl (Or.inl rfl)) (tgd_name 2) ?_)
    refine we_of_wn ?_
    refine wn_sliceL ?_
    refine we_n 0 ?_
    refine ⟨_, rfl, ?_⟩
    refine wp_none ?_
    refine wp_e ?_
    refine we_int ?_
    refine ⟨_, rfl, ?_⟩
    refine ⟨rfl, _, fun i e => ∃ (x : Sl) (t : Int), 0 ≤ t ∧ t < 2147483629 ∧ e = [.d (.list (ns.map .int)), .d (.list ((ns.map absI).map .int)), x, .d (.int t)], rfl, ⟨.un, _, ?_, ?_, rfl⟩, ?_, ?_⟩
    · omega
    · simp; omega
    · rintro i x hx _ ⟨x2, t, t0, t1, rfl⟩
      rw [hcut] at hx
      obtain ⟨n, rfl, hn2⟩ := ints_get hx
      refine ⟨_, rfl, rfl, ?_⟩
      refine ws_cons (w1_set 3 sc__law_bag.nd ?_)
      refine we_mod ?_
      refine we_add ?_
      refine we_add ?_
      refine we_mul ?_
      refine we_n 3 ?_
      refine we_int ?_
      refine ⟨?_, by unfold L2.CMul; omega⟩
      refine we_abs m_abs ?_
      refine we_n 2 ?_
      refine ⟨_, rfl, ?_⟩
      refine .int ?_
      refine we_mul ?_
      refine we_int ?_
      refine we_intof m_int ?_
      refine we_cp (op_ltA hr) ?_
      refine we_n 2 ?_
      refine we_int ?_
      refine ⟨_, cp_lt, ?_⟩
      refine .bool ?_
      refine ⟨?_, by unfold L2.CMul; omega⟩
      refine .int ?_
      refine we_int ?_
      refine ⟨?_, by decide⟩
      refine ⟨rfl, ?_⟩
      refine ws_nil ?_
      exact ⟨_, _, Int.emod_nonneg _ (by decide), Int.emod_lt_of_pos _ (by decide), rfl⟩
    · rintro _ ⟨x2, t, t0, t1, rfl⟩
      refine ws_cons (w1_retN ?_)
      refine wn_list ?_
      refine wa_d ?_
      refine we_n 1 ?_
      refine ⟨rfl, ?_⟩
      refine wa_d ?_
      refine we_int ?_
      refine ⟨rfl, ?_⟩
      refine wa_d ?_
      refine we_int ?_
      refine ⟨rfl, ?_⟩
      refine wa_d ?_
      refine we_n 3 ?_
      refine ⟨rfl, ?_⟩
      refine wa_nil ?_
      refine ⟨_, rfl, szOk rfl, ?_⟩
      refine ⟨_, hΦ _ ⟨ns.map absI, 0, 0, t, rfl, fun c hc => ?_, by decide, by decide, t0, t1⟩, trivial, rfl, rfl⟩
      obtain ⟨z, _, rfl⟩ := List.mem_map.mp hc
      exact absI_nn z

/-! _law_pull -/
def c__law_pull : CT := fun args Φ Ψ => ∃ (b : Addr) (many : Int), args = [.bg b, .d (.int many)] ∧ 0 < many ∧ many.natAbs < 2 ^ 8000 ∧ ∀ r : Int, 0 ≤ r → r < many → Φ (.rd (.int r)) args
theorem ok__law_pull (F : FnP K "_law_pull" s__law_pull f fd) (hm : mg "_law_pull" = some (.ref f)) (hb : Binds K fd ["_law_bag_here", "_law_many"] []) (m_len : mg "len" = none) :
    Has P w K mg base (k + 1) "_law_pull" ["_law_bag_here", "_law_many"] c__law_pull := by
  refine fn_has F hm sc__law_pull hb rfl ?_
  rintro cdv A outer s H E g args Φ Ψ hr hp hM hl ⟨b, many, rfl, m0, m1, hΦ⟩
  have hd : ∀ i, CDivW i many := fun i => wide_div m0 m1 (by decide) (by decide)
  refine ws_open 0 rfl fun cells i z t hc i0 z0 t0 t1 => ?_
  have bag : ∀ z' : Int, 0 ≤ z' → BagD [.list (cells.map .int), .int (i + 1), .int z', .int t] := fun z' h => ⟨cells, i + 1, z', t, rfl, hc, by omega, h, t0, t1⟩
  refine ws_cons (w1_if ?_)
  refine wt_cp (op_ltA hr) ?_
  refine we_ix ?_
  refine we_nl 0 ?_
  refine we_int ?_
  refine ix_lst (by decide) rfl ?_
  refine we_int ?_
  refine ⟨_, cp_lt, ?_⟩
  refine ⟨fun b1 => ?_, fun b1 => ?_⟩
  · -- then
    refine ws_cons (w1_augix 0 rfl ?_)
    refine we_int ?_
    refine ⟨1, 1, _, rfl, rfl, rfl, ?_⟩
    refine we_int ?_
    refine ⟨_, rfl, ?_⟩
    refine ws_cons (w1_set 2 sc__law_pull.nd ?_)
    refine we_ix ?_
    refine we_nl 0 ?_
    refine we_int ?_
    refine ix_lst (by decide) rfl ?_
    refine ⟨rfl, ?_⟩
    refine ws_mid (fun e => ∃ y : Int, 0 ≤ y ∧ e = [.ol b [.list (cells.map .int), .int (i + 1), .int z, .int t], .d (.int many), .d (.int y), .un, .un]) (w1_if ?_) ?_
    · refine wt_cp op_le ?_
      refine we_ix ?_
      refine we_nl 0 ?_
      refine we_int ?_
      refine ix_lst (by decide) rfl ?_
      refine we_len m_len ?_
      refine we_ix ?_
      refine we_nl 0 ?_
      refine we_int ?_
      refine ix_lst (by decide) rfl ?_
      refine .lst ?_
      refine ⟨_, cp_le, ?_⟩
      refine ⟨fun b2 => ?_, fun b2 => ?_⟩
      · -- then
        have b2 := of_decide_eq_true b2
        rw [List.length_map] at b2
        refine ws_cons (w1_set 2 sc__law_pull.nd ?_)
        refine we_ix ?_
        refine we_ix ?_
        refine we_nl 0 ?_
        refine we_int ?_
        refine ix_lst (by decide) rfl ?_
        refine we_sub ?_
        refine we_ix ?_
        refine we_nl 0 ?_
        refine we_int ?_
        refine ix_lst (by decide) rfl ?_
        refine we_int ?_
        refine ⟨?_, trivial⟩
        refine ix_ints (by omega) (by omega) fun n hn => ?_
        have n0 := hc n hn
        refine ⟨rfl, ?_⟩
        refine ws_cons (w1_if ?_)
        refine wt_cp op_ge ?_
        refine we_n 2 ?_
        refine we_pow ?_
        refine we_int ?_
        refine we_int ?_
        refine ⟨?_, by unfold L2.CPow; decide⟩
        refine ⟨_, cp_ge, ?_⟩
        refine ⟨fun b3 => ?_, fun b3 => ?_⟩
        · -- then
          refine ws_cons (w1_setix 0 rfl ?_)
          refine we_div ?_
          refine we_n 2 ?_
          refine we_n 1 ?_
          refine ⟨?_, hd _⟩
          refine ⟨rfl, ?_⟩
          refine we_int ?_
          refine ⟨2, 2, rfl, rfl, ?_⟩
          refine ws_cons (w1_ret ?_)
          refine we_mod ?_
          refine we_n 2 ?_
          refine we_n 1 ?_
          refine ⟨?_, m0⟩
          refine ⟨rfl, ?_⟩
          exact ⟨_, hΦ _ (Int.emod_nonneg _ (by omega)) (Int.emod_lt_of_pos _ m0), trivial, ⟨rfl, bag _ (Int.ediv_nonneg n0 (by omega)), rfl⟩, rfl, rfl⟩
        · -- else
          refine ws_nil (ws_nil ?_)
          exact ⟨n, n0, rfl⟩
      · -- else
        refine ws_nil ?_
        exact ⟨i + 1, by omega, rfl⟩
    rintro _ ⟨y, y0, rfl⟩
    refine ws_cons (w1_set 3 sc__law_pull.nd ?_)
    refine we_mod ?_
    refine we_add ?_
    refine we_add ?_
    refine we_n 2 ?_
    refine we_mul ?_
    refine we_ix ?_
    refine we_nl 0 ?_
    refine we_int ?_
    refine ix_lst (by decide) rfl ?_
    refine we_int ?_
    refine ⟨?_, by unfold L2.CMul; omega⟩
    refine .int ?_
    refine we_mul ?_
    refine we_ix ?_
    refine we_nl 0 ?_
    refine we_int ?_
    refine ix_lst (by decide) rfl ?_
    refine we_int ?_
    refine ⟨?_, by unfold L2.CMul; omega⟩
    refine .int ?_
    refine we_int ?_
    refine ⟨?_, by decide⟩
    refine ⟨rfl, ?_⟩
    generalize (y + t * 31 + (i + 1) * 69061) = y1
    refine ws_cons (w1_set 3 sc__law_pull.nd ?_)
    refine we_mod ?_
    refine we_add ?_
    refine we_mul ?_
    refine we_n 3 ?_
    refine we_n 3 ?_
    have y2 := Int.emod_nonneg y1 (b := 2147483629) (by decide)
    have y3 := Int.emod_lt_of_pos y1 (b := 2147483629) (by decide)
    refine ⟨?_, by unfold L2.CMul; omega⟩
    refine we_int ?_
    refine .int ?_
    refine we_int ?_
    refine ⟨?_, by decide⟩
    refine ⟨rfl, ?_⟩
    generalize (y1 % 2147483629 * (y1 % 2147483629) + 40961) = y4
    refine ws_cons (w1_ret ?_)
    refine we_mod ?_
    refine we_div ?_
    refine we_mod ?_
    refine we_add ?_
    refine we_mul ?_
    refine we_n 3 ?_
    refine we_n 3 ?_
    have y5 := Int.emod_nonneg y4 (b := 2147483587) (by decide)
    have y6 := Int.emod_lt_of_pos y4 (b := 2147483587) (by decide)
    refine ⟨?_, by unfold L2.CMul; omega⟩
    refine we_ix ?_
    refine we_nl 0 ?_
    refine we_int ?_
    refine ix_lst (by decide) rfl ?_
    refine .int ?_
    refine we_int ?_
    refine ⟨?_, by decide⟩
    refine we_int ?_
    refine ⟨?_, cdiv_small _ (by decide) (by decide)⟩
    refine we_n 1 ?_
    refine ⟨?_, m0⟩
    refine ⟨rfl, ?_⟩
    exact ⟨_, hΦ _ (Int.emod_nonneg _ (by omega)) (Int.emod_lt_of_pos _ m0), trivial, ⟨rfl, bag z z0, rfl⟩, rfl, rfl⟩
  · -- else
    refine ws_nil ?_
    refine ws_cons (w1_set 4 sc__law_pull.nd ?_)
    refine we_mod ?_
    refine we_ix ?_
    refine we_nl 0 ?_
    refine we_int ?_
    refine ix_lst (by decide) rfl ?_
    refine we_n 1 ?_
    refine ⟨?_, m0⟩
    refine ⟨rfl, ?_⟩
    refine ws_cons (w1_setix 0 rfl ?_)
    refine we_div ?_
    refine we_ix ?_
    refine we_nl 0 ?_
    refine we_int ?_
    refine ix_lst (by decide) rfl ?_
    refine we_n 1 ?_
    refine ⟨?_, hd _⟩
    refine ⟨rfl, ?_⟩
    refine we_int ?_
    refine ⟨2, 2, rfl, rfl, ?_⟩
    refine ws_cons (w1_ret ?_)
    refine we_n 4 ?_
    refine ⟨rfl, ?_⟩
    exact ⟨_, hΦ _ (Int.emod_nonneg _ (by omega)) (Int.emod_lt_of_pos _ m0), trivial, ⟨rfl, ⟨cells, i, z / many, t, rfl, hc, i0, Int.ediv_nonneg z0 (by omega), t0, t1⟩, rfl⟩, rfl, rfl⟩

/-! _law_ways -/
def c__law_ways : CT := fun args Φ Ψ => ∃ n : Nat, args = [.d (.int n)] ∧ n ≤ 38 ∧ Φ (.nl (rg (n + 1) fun i => ccD (i + 1))) args
theorem ok__law_ways (F : FnP K "_law_ways" s__law_ways f fd) (hm : mg "_law_ways" = some (.ref f)) (hb : Binds K fd ["_law_most"] []) (m_range : mg "range" = none) :
    Has P w K mg base (k + 1) "_law_ways" ["_law_most"] c__law_ways := by
  refine fn_has F hm sc__law_ways hb rfl ?_
  rintro cdv A outer s H E g args Φ Ψ hr hp hM hl ⟨n, rfl, n1, hΦ⟩
  have hsl := sizeLine_eq
  refine ws_cons (w1_setN 1 sc__law_ways.nd ?_)
  refine wn_list ?_
  refine wa_d ?_
  refine we_int ?_
  refine ⟨rfl, ?_⟩
  refine wa_nil ?_
  refine ⟨_, rfl, szOk rfl, ?_⟩
  intro a__law_row n__law_row
  refine ws_cons (w1_forR2 m_range hp rfl (pg_name (i := 2) sc__law_ways.nd rfl (Or.inl rfl)) (tgd_name 2) ?_)
  refine we_int ?_
  refine ⟨_, rfl, ?_⟩
  refine we_add ?_
  refine we_n 0 ?_
  refine we_int ?_
  refine .int ?_
  refine ⟨_, fun i e => ∃ x : Sl, e = [.d (.int n), .ol a__law_row (rg (i + 1) fun i => ccD (i + 1)), x], rfl, by omega, ⟨.un, rfl⟩, ?_, ?_⟩
  · rintro i hi _ ⟨x, rfl⟩
    refine ⟨_, rfl, rfl, ?_⟩
    refine ws_cons (w1_append 1 rfl ?_)
    refine we_div ?_
    refine we_mulW ?_
    refine we_mul ?_
    refine we_ix ?_
    refine we_nl 1 ?_
    refine we_neg ?_
    refine we_int ?_
    refine ⟨_, rfl, ?_⟩
    refine .lst ?_ (by rw [← rg_succ]; exact at_last)
    refine we_int ?_
    refine ⟨?_, by unfold L2.CMul; omega⟩
    refine we_sub ?_
    refine we_mul ?_
    refine we_int ?_
    refine we_n 2 ?_
    refine ⟨?_, by unfold L2.CMul; omega⟩
    refine we_int ?_
    refine ⟨?_, trivial⟩
    have hlt := cc_lt (i + 1) (by omega)
    refine ⟨?_, wide_mul (a := 90) (b := 90) (by omega) (by omega) (by decide) (by decide) (by decide)⟩
    refine we_add ?_
    refine we_n 2 ?_
    refine we_int ?_
    refine .int ?_
    refine ⟨?_, cdiv_small _ (by omega) (by omega)⟩
    refine ⟨rfl, by rw [rg_len]; omega, ?_⟩
    refine ws_nil ?_
    have e := cc_cat (i + 1) (by omega) (by omega)
    rw [show ((i + 1 : Nat) : Int) = 1 + (i : Int) by omega] at e
    refine ⟨.d (.int (1 + (i : Int))), ?_⟩
    rw [e, ← rg_succ (m := i + 1)]
    rfl
  · rintro _ ⟨x, rfl⟩
    refine ws_cons (w1_retO 1 rfl n__law_row ?_)
    rw [show ((n : Int) + 1 - 1).toNat = n by omega]
    exact ⟨_, hΦ, trivial, rfl, rfl⟩

/-! _law_count_word -/
def wordOf (which n q : Int) : Str := if 3 ≤ n ∧ n ≤ 40 then (if which = 1 ∧ ¬ (0 ≤ q ∧ q < cc (n - 1).toNat) then "BadNumber" else "told") else "BadFaces"
def c__law_count_word : CT := fun args Φ Ψ => ∃ which n q : Int, args = [.d (.int which), .d (.int n), .d (.int q)] ∧ Φ (.rd (.str (wordOf which n q))) args
theorem ok__law_count_word (F : FnP K "_law_count_word" s__law_count_word f fd) (hm : mg "_law_count_word" = some (.ref f)) (hb : Binds K fd ["_law_which", "_law_faces", "_law_number"] []) {j : Nat} (hj : j ≤ k) (x_BadFaces : ExK K mg "BadFaces") (x_BadNumber : ExK K mg "BadNumber") (x_PinchError : mg "PinchError" = some (.ref (He.ga K "PinchError")))
    (e1 : ExM K (.own "BadFaces") "BadFaces" = some true) (e2 : ExM K (.own "BadNumber") "BadFaces" = some false) (e3 : ExM K (.own "BadNumber") "BadNumber" = some true)
    (h_how_many : Has P w K mg base j "how_many" ["faces"] c_how_many) (h_plan_numbered : Has P w K mg base j "plan_numbered" ["faces", "number"] c_plan_numbered) (h_unlike : Has P w K mg base j "unlike" ["faces"] c_unlike) :
    Has P w K mg base (k + 1) "_law_count_word" ["_law_which", "_law_faces", "_law_number"] c__law_count_word := by
  refine fn_has F hm sc__law_count_word hb rfl ?_
  rintro cdv A outer s H E g args Φ Ψ hr hp hM hl ⟨which, n, q, rfl, hΦ⟩
  refine ws_cons (w1_set 3 sc__law_count_word.nd ?_)
  refine we_str ?_
  refine ⟨rfl, ?_⟩
  refine ws_mid (fun e => e = [.d (.int which), .d (.int n), .d (.int q), .d (.str (wordOf which n q))]) (w1_try (.cons ⟨rfl, rfl, Or.inl x_BadFaces.gC⟩ (.cons ⟨rfl, rfl, Or.inl x_BadNumber.gC⟩ (.cons ⟨rfl, rfl, Or.inl x_PinchError⟩ .nil))) ?_) ?_
  · intro pn xe F0 hp
    refine ws_cons (w1_if ?_)
    refine wt_cp (op_eqA hr) ?_
    refine we_n 0 ?_
    refine we_int ?_
    refine ⟨_, cp_eqI, ?_⟩
    refine ⟨fun b1 => ?_, fun b1 => ?_⟩
    · -- then
      have b1 := of_decide_eq_true b1
      refine ws_cons (w1_expr ?_)
      refine we_call h_how_many hr ?_ hj
      refine wa_d ?_
      refine we_n 1 ?_
      refine ⟨rfl, ?_⟩
      refine wa_nil ?_
      refine ⟨rfl, n, rfl, fun b => ⟨rfl, _, rfl, ?_⟩, fun b => ⟨rfl, ?_⟩⟩
      · refine ws_nil (ws_nil ?_)
        rw [wordOf, if_pos b, if_neg (by omega)]
        rfl
      · refine ⟨true, e1, fun _ a q pn => ?_, fun h => by cases h⟩
        refine ws_cons (w1_set 3 sc__law_count_word.nd ?_)
        refine we_str ?_
        refine ⟨rfl, ?_⟩
        refine ws_nil ?_
        rw [wordOf, if_neg b]
        rfl
    · -- else
      have b1 := of_decide_eq_false b1
      refine ws_cons (w1_if ?_)
      refine wt_cp (op_eqA hr) ?_
      refine we_n 0 ?_
      refine we_int ?_
      refine ⟨_, cp_eqI, ?_⟩
      refine ⟨fun b2 => ?_, fun b2 => ?_⟩
      · -- then
        have b2 := of_decide_eq_true b2
        refine ws_cons (w1_expr ?_)
        refine we_call h_plan_numbered hr ?_ hj
        refine wa_d ?_
        refine we_n 1 ?_
        refine ⟨rfl, ?_⟩
        refine wa_d ?_
        refine we_n 2 ?_
        refine ⟨rfl, ?_⟩
        refine wa_nil ?_
        refine ⟨rfl, n, q, rfl, fun b => ⟨rfl, ?_⟩, fun b c => ⟨rfl, ?_⟩, fun b c ps _ => ⟨rfl, _, rfl, ?_⟩⟩
        · refine ⟨true, e1, fun _ a q pn => ?_, fun h => by cases h⟩
          refine ws_cons (w1_set 3 sc__law_count_word.nd ?_)
          refine we_str ?_
          refine ⟨rfl, ?_⟩
          refine ws_nil ?_
          rw [wordOf, if_neg b]
          rfl
        · refine ⟨false, e2, fun h => (by cases h), fun _ => ⟨true, e3, fun _ a q pn => ?_, fun h => by cases h⟩⟩
          refine ws_cons (w1_set 3 sc__law_count_word.nd ?_)
          refine we_str ?_
          refine ⟨rfl, ?_⟩
          refine ws_nil ?_
          rw [wordOf, if_pos b, if_pos ⟨b2, c⟩]
          rfl
        · refine ws_nil (ws_nil (ws_nil ?_))
          rw [wordOf, if_pos b, if_neg (fun h => h.2 c)]
          rfl
      · -- else
        have b2 := of_decide_eq_false b2
        refine ws_cons (w1_expr ?_)
        refine we_call h_unlike hr ?_ hj
        refine wa_d ?_
        refine we_n 1 ?_
        refine ⟨rfl, ?_⟩
        refine wa_nil ?_
        refine ⟨rfl, n, rfl, fun b => ⟨rfl, _, rfl, ?_⟩, fun b => ⟨rfl, ?_⟩⟩
        · refine ws_nil (ws_nil (ws_nil ?_))
          rw [wordOf, if_pos b, if_neg (fun h => b2 h.1)]
          rfl
        · refine ⟨true, e1, fun _ a q pn => ?_, fun h => by cases h⟩
          refine ws_cons (w1_set 3 sc__law_count_word.nd ?_)
          refine we_str ?_
          refine ⟨rfl, ?_⟩
          refine ws_nil ?_
          rw [wordOf, if_neg b]
          rfl
  rintro _ rfl
  refine ws_cons (w1_ret ?_)
  refine we_n 3 ?_
  refine ⟨rfl, ?_⟩
  exact ⟨_, hΦ, trivial, rfl, rfl, rfl, rfl⟩

/-! law -/
theorem ok_law (F : FnP K "law" s_law f fd) {j : Nat} (hj : j ≤ k) (h__law_bag : Has P w K mg base j "_law_bag" ["_law_script"] c__law_bag) (h__law_ways : Has P w K mg base j "_law_ways" ["_law_most"] c__law_ways) (m_range : mg "range" = none) (h__law_pull : Has P w K mg base j "_law_pull" ["_law_bag_here", "_law_many"] c__law_pull) (m_int : mg "int" = none) (h__law_count_word : Has P w K mg base j "_law_count_word" ["_law_which", "_law_faces", "_law_number"] c__law_count_word) :
    FnOk P w K mg base (L2.CX P w) (k + 1) f fd ["_law_script"] (spOf K 1 cLaw) := by
  refine fn_ok (ps := ["_law_script"]) F sc_law rfl ?_
  rintro cdv A outer s H E g args Φ Ψ hr hp hM hl ⟨ns, rfl, hns, hΦ⟩
  refine ws_cons (w1_setN 1 sc_law.nd ?_)
  refine wn_call h__law_bag hr ?_ hj
  refine wa_d ?_
  refine we_n 0 ?_
  refine ⟨rfl, ?_⟩
  refine wa_nil ?_
  refine ⟨rfl, ns, rfl, hns, fun ds hds => ⟨rfl, ds, rfl, ?_⟩⟩
  intro a_bag n_bag
  refine ws_close 1 rfl hds ?_
  refine ws_cons (w1_set 2 sc_law.nd ?_)
  refine we_call h__law_ways hr ?_ hj
  refine wa_d ?_
  refine we_int ?_
  refine ⟨rfl, ?_⟩
  refine wa_nil ?_
  refine ⟨rfl, 38, rfl, by decide, rfl, _, rfl, rfl, ?_⟩
  refine ws_cons (w1_forR1 m_range hp rfl (pg_name (i := 3) sc_law.nd rfl (Or.inl rfl)) (tgd_name 3) ?_)
  refine we_int ?_
  refine ⟨_, fun i e => ∃ s3 s4 s5 s6 s7 s8 s9 : Sl, e = [.d (.list (ns.map .int)), .bg a_bag, .d (.list (rg 39 fun i => ccD (i + 1))), s3, s4, s5, s6, s7, s8, s9], rfl, by decide, ⟨_, _, _, _, _, _, _, rfl⟩, ?_, ?_⟩
  · rintro i hi _ ⟨s3, s4, s5, s6, s7, s8, s9, rfl⟩
    refine ⟨_, rfl, rfl, ?_⟩
    refine ws_cons (w1_set 4 sc_law.nd ?_)
    refine we_ix ?_
    refine we_list ?_
    refine wa_d ?_
    refine we_int ?_
    refine ⟨rfl, ?_⟩
    refine wa_d ?_
    refine we_int ?_
    refine ⟨rfl, ?_⟩
    refine wa_d ?_
    refine we_int ?_
    refine ⟨rfl, ?_⟩
    refine wa_d ?_
    refine we_int ?_
    refine ⟨rfl, ?_⟩
    refine wa_d ?_
    refine we_int ?_
    refine ⟨rfl, ?_⟩
    refine wa_d ?_
    refine we_sub ?_
    refine we_int ?_
    refine we_int ?_
    refine ⟨?_, trivial⟩
    refine ⟨rfl, ?_⟩
    refine wa_d ?_
    refine we_pow ?_
    refine we_int ?_
    refine we_int ?_
    refine powP (v := 1000000000000000000000000000000) (by decide +kernel) ?_ (by unfold L2.CPow; decide)
    refine ⟨rfl, ?_⟩
    refine wa_d ?_
    refine we_add ?_
    refine we_int ?_
    refine we_call h__law_pull hr ?_ hj
    refine wa_s 1 ?_
    refine wa_d ?_
    refine we_int ?_
    refine ⟨rfl, ?_⟩
    refine wa_nil ?_
    refine ⟨rfl, a_bag, _, rfl, by decide, nb (by decide), fun r r0 r1 => ⟨rfl, _, rfl, ?_⟩⟩
    refine .int ?_
    refine ⟨rfl, ?_⟩
    refine wa_nil ?_
    refine ⟨_, rfl, szOk rfl, ?_⟩
    refine we_call h__law_pull hr ?_ hj
    refine wa_s 1 ?_
    refine wa_d ?_
    refine we_int ?_
    refine ⟨rfl, ?_⟩
    refine wa_nil ?_
    refine ⟨rfl, a_bag, _, rfl, by decide, nb (by decide), fun t t0 t1 => ⟨rfl, _, rfl, ?_⟩⟩
    refine ix_any 8 t0 (by omega) fun n => ?_
    refine ⟨rfl, ?_⟩
    obtain ⟨due, hdue⟩ : ∃ due : Str, (3 ≤ n ∧ n ≤ 40 ∧ due = "told") ∨ (¬ (3 ≤ n ∧ n ≤ 40) ∧ due = "BadFaces") := by
      by_cases h : 3 ≤ n ∧ n ≤ 40
      · exact ⟨_, .inl ⟨h.1, h.2, rfl⟩⟩
      · exact ⟨_, .inr ⟨h, rfl⟩⟩
    refine ws_mid (fun e => e = [.d (.list (ns.map .int)), .bg a_bag, .d (.list (rg 39 fun i => ccD (i + 1))), .d (.int i), .d (.int n), .d (.str due), s6, s7, s8, s9]) (w1_set 5 sc_law.nd ?_) ?_
    · refine we_ix ?_
      refine we_list ?_
      refine wa_d ?_
      refine we_str ?_
      refine ⟨rfl, ?_⟩
      refine wa_d ?_
      refine we_str ?_
      refine ⟨rfl, ?_⟩
      refine wa_nil ?_
      refine ⟨_, rfl, szOk rfl, ?_⟩
      refine we_intof m_int ?_
      refine we_ch op_le op_le ?_
      refine we_int ?_
      refine we_n 4 ?_
      refine ⟨_, cp_le, fun b1 => ?_, fun b1 => ?_⟩
      · have b1 := of_decide_eq_true b1
        refine we_int ?_
        refine ⟨_, cp_le, ?_⟩
        refine .bool ?_
        by_cases b2 : n ≤ 40
        · have e : due = "told" := by rcases hdue with h | h; exact h.2.2; exact absurd ⟨b1, b2⟩ h.1
          subst e
          rw [decide_eq_true b2, if_pos rfl]
          exact ix_lst (by decide) rfl ⟨rfl, rfl⟩
        · have e : due = "BadFaces" := by rcases hdue with h | h; exact absurd h.2.1 b2; exact h.2
          subst e
          rw [decide_eq_false b2, if_neg (by decide)]
          exact ix_lst (by decide) rfl ⟨rfl, rfl⟩
      · have b1 := of_decide_eq_false b1
        refine .bool ?_
        have e : due = "BadFaces" := by rcases hdue with h | h; exact absurd h.1 b1; exact h.2
        subst e
        rw [if_neg (by decide)]
        exact ix_lst (by decide) rfl ⟨rfl, rfl⟩
    rintro _ rfl
    refine ws_mid (fun e => ∃ s6, e = [.d (.list (ns.map .int)), .bg a_bag, .d (.list (rg 39 fun i => ccD (i + 1))), .d (.int i), .d (.int n), .d (.str due), s6, s7, s8, s9]) (w1_forT hp rfl (pg_name (i := 6) sc_law.nd rfl (Or.inl rfl)) (tgd_name 6) ?_) ?_
    · refine we_tuple ?_
      refine wa_d ?_
      refine we_int ?_
      refine ⟨rfl, ?_⟩
      refine wa_d ?_
      refine we_int ?_
      refine ⟨rfl, ?_⟩
      refine wa_nil ?_
      refine ⟨_, rfl, szOk rfl, ?_⟩
      refine ⟨rfl, _, fun i' e => ∃ s6, e = [.d (.list (ns.map .int)), .bg a_bag, .d (.list (rg 39 fun i => ccD (i + 1))), .d (.int i), .d (.int n), .d (.str due), s6, s7, s8, s9], rfl, ⟨_, rfl⟩, ?_, fun _ h => h⟩
      rintro i' x hx _ ⟨s6, rfl⟩
      obtain ⟨v, rfl, hv⟩ : ∃ v : Int, x = .int v ∧ v ≠ 1 := by
        have hx := List.mem_of_getElem? hx
        simp at hx
        rcases hx with rfl | rfl
        · exact ⟨0, rfl, by decide⟩
        · exact ⟨2, rfl, by decide⟩
      refine ⟨_, rfl, rfl, ?_⟩
      refine ws_cons (w1_if ?_)
      refine wt_cp (op_neA hr) ?_
      refine we_call h__law_count_word hr ?_ hj
      refine wa_d ?_
      refine we_n 6 ?_
      refine ⟨rfl, ?_⟩
      refine wa_d ?_
      refine we_n 4 ?_
      refine ⟨rfl, ?_⟩
      refine wa_d ?_
      refine we_int ?_
      refine ⟨rfl, ?_⟩
      refine wa_nil ?_
      refine ⟨rfl, v, n, 0, rfl, rfl, _, rfl, ?_⟩
      refine we_n 5 ?_
      have ew : wordOf v n 0 = due := by
        unfold wordOf
        rcases hdue with h | h
        · rw [if_pos ⟨h.1, h.2.1⟩, if_neg (fun z => hv z.1), h.2.2]
        · rw [if_neg h.1, h.2]
      refine ⟨_, cp_neS, ?_⟩
      rw [ew, decide_eq_true rfl]
      refine ⟨fun b2 => (by cases b2), fun _ => ?_⟩
      exact ws_nil (ws_nil ⟨_, rfl⟩)
    rintro _ ⟨s6, rfl⟩
    refine ws_mid (fun e => ∃ most : Int, (3 ≤ n ∧ n ≤ 40 → most = cc (n - 1).toNat) ∧ e = [.d (.list (ns.map .int)), .bg a_bag, .d (.list (rg 39 fun i => ccD (i + 1))), .d (.int i), .d (.int n), .d (.str due), s6, .d (.int most), s8, s9]) (w1_set 7 sc_law.nd ?_) ?_
    · refine we_if ?_
      refine wt_cp (op_eqA hr) ?_
      refine we_n 5 ?_
      refine we_str ?_
      refine ⟨_, cp_eqS, ?_⟩
      refine ⟨fun b3 => ?_, fun b3 => ?_⟩
      · have b3 := of_decide_eq_true b3
        have h : 3 ≤ n ∧ n ≤ 40 := by
          rcases hdue with h | h
          · exact ⟨h.1, h.2.1⟩
          · rw [h.2] at b3; exact absurd b3 (by decide)
        refine we_ix ?_
        refine we_n 2 ?_
        refine we_sub ?_
        refine we_n 4 ?_
        refine we_int ?_
        refine ⟨?_, trivial⟩
        refine ix_rg (by omega) (by omega) ?_
        refine ⟨rfl, cc (n - 1).toNat, fun _ => rfl, ?_⟩
        rw [show (n - 1).toNat = (n - 2).toNat + 1 by omega]
        rfl
      · have b3 := of_decide_eq_false b3
        refine we_int ?_
        refine ⟨rfl, 5, fun h => ?_, rfl⟩
        rcases hdue with z | z
        · exact absurd z.2.2 b3
        · exact absurd h z.1
    rintro _ ⟨most, hmost, rfl⟩
    refine ws_cons (w1_forT hp rfl (pg_name (i := 8) sc_law.nd rfl (Or.inl rfl)) (tgd_name 8) ?_)
    refine we_tuple ?_
    refine wa_d ?_
    refine we_sub ?_
    refine we_int ?_
    refine we_int ?_
    refine ⟨?_, trivial⟩
    refine ⟨rfl, ?_⟩
    refine wa_d ?_
    refine we_int ?_
    refine ⟨rfl, ?_⟩
    refine wa_d ?_
    refine we_sub ?_
    refine we_n 7 ?_
    refine we_int ?_
    refine ⟨?_, trivial⟩
    refine ⟨rfl, ?_⟩
    refine wa_d ?_
    refine we_n 7 ?_
    refine ⟨rfl, ?_⟩
    refine wa_d ?_
    refine we_add ?_
    refine we_add ?_
    refine we_n 7 ?_
    refine we_int ?_
    refine .int ?_
    refine we_call h__law_pull hr ?_ hj
    refine wa_s 1 ?_
    refine wa_d ?_
    refine we_pow ?_
    refine we_int ?_
    refine we_int ?_
    refine powP (v := 100000000000000000000) (by decide +kernel) ?_ (by unfold L2.CPow; decide)
    refine ⟨rfl, ?_⟩
    refine wa_nil ?_
    refine ⟨rfl, a_bag, _, rfl, by decide, nb (by decide), fun u u0 u1 => ⟨rfl, _, rfl, ?_⟩⟩
    refine .int ?_
    refine ⟨rfl, ?_⟩
    refine wa_nil ?_
    refine ⟨_, rfl, szOk rfl, ?_⟩
    refine ⟨rfl, _, fun i' e => ∃ s8 s9, e = [.d (.list (ns.map .int)), .bg a_bag, .d (.list (rg 39 fun i => ccD (i + 1))), .d (.int i), .d (.int n), .d (.str due), s6, .d (.int most), s8, s9], rfl, ⟨_, _, rfl⟩, ?_, ?_⟩
    · rintro i' x hx _ ⟨s8, s9, rfl⟩
      obtain ⟨q, rfl⟩ : ∃ q : Int, x = .int q := by
        have hx := List.mem_of_getElem? hx
        simp at hx
        rcases hx with rfl | rfl | rfl | rfl | rfl <;> exact ⟨_, rfl⟩
      refine ⟨_, rfl, rfl, ?_⟩
      refine ws_cons (w1_set 9 sc_law.nd ?_)
      refine we_n 5 ?_
      refine ⟨rfl, ?_⟩
      refine ws_mid (fun e => e = [.d (.list (ns.map .int)), .bg a_bag, .d (.list (rg 39 fun i => ccD (i + 1))), .d (.int i), .d (.int n), .d (.str due), s6, .d (.int most), .d (.int q), .d (.str (wordOf 1 n q))]) (w1_if ?_) ?_
      · refine wt_ww ?_
        refine ww_and ?_
        refine wt_cp (op_eqA hr) ?_
        refine we_n 5 ?_
        refine we_str ?_
        refine ⟨_, cp_eqS, ?_⟩
        refine ⟨fun b4 => ?_, fun b4 => ?_⟩
        · have b4 := of_decide_eq_true b4
          have h : 3 ≤ n ∧ n ≤ 40 := by
            rcases hdue with h | h
            · exact ⟨h.1, h.2.1⟩
            · rw [h.2] at b4; exact absurd b4 (by decide)
          have hm := hmost h
          have bad : ¬ (0 ≤ q ∧ q < most) → wordOf 1 n q = "BadNumber" := fun z => by
            rw [wordOf, if_pos h, if_pos ⟨rfl, by rw [← hm]; exact z⟩]
          refine ww_and1 ?_
          refine wt_not ?_
          refine wt_ch op_le (op_ltA hr) ?_
          refine we_int ?_
          refine we_n 8 ?_
          refine ⟨_, cp_le, fun b5 => ?_, fun b5 => ?_⟩
          · have b5 := of_decide_eq_true b5
            refine we_n 7 ?_
            refine ⟨_, cp_lt, fun b6 => ?_, fun b6 => ?_⟩
            · have b6 := nd_t b6
              refine ws_cons (w1_set 9 sc_law.nd ?_)
              refine we_str ?_
              refine ⟨rfl, ?_⟩
              refine ws_nil ?_
              rw [bad (fun z => b6 z.2)]
              rfl
            · have b6 := nd_f b6
              refine ws_nil ?_
              rw [wordOf, if_pos h, if_neg (fun z => z.2 (by rw [← hm]; exact ⟨b5, b6⟩)), b4]
              rfl
          · have b5 := of_decide_eq_false b5
            refine ⟨fun _ => ?_, fun b6 => by cases b6⟩
            refine ws_cons (w1_set 9 sc_law.nd ?_)
            refine we_str ?_
            refine ⟨rfl, ?_⟩
            refine ws_nil ?_
            rw [bad (fun z => b5 z.1)]
            rfl
        · have b4 := of_decide_eq_false b4
          refine ⟨fun b6 => (by cases b6), fun _ => ?_⟩
          refine ws_nil ?_
          rcases hdue with z | z
          · exact absurd z.2.2 b4
          · rw [wordOf, if_neg z.1, z.2]
            rfl
      rintro _ rfl
      refine ws_cons (w1_if ?_)
      refine wt_cp (op_neA hr) ?_
      refine we_call h__law_count_word hr ?_ hj
      refine wa_d ?_
      refine we_int ?_
      refine ⟨rfl, ?_⟩
      refine wa_d ?_
      refine we_n 4 ?_
      refine ⟨rfl, ?_⟩
      refine wa_d ?_
      refine we_n 8 ?_
      refine ⟨rfl, ?_⟩
      refine wa_nil ?_
      refine ⟨rfl, 1, n, q, rfl, rfl, _, rfl, ?_⟩
      refine we_n 9 ?_
      refine ⟨_, cp_neS, ?_⟩
      rw [decide_eq_true rfl]
      refine ⟨fun b2 => (by cases b2), fun _ => ?_⟩
      exact ws_nil (ws_nil ⟨_, _, rfl⟩)
    · rintro _ ⟨s8, s9, rfl⟩
      exact ws_nil ⟨_, _, _, _, _, _, _, rfl⟩
  · rintro _ ⟨s3, s4, s5, s6, s7, s8, s9, rfl⟩
    refine ws_cons (w1_ret ?_)
    refine we_bool ?_
    refine ⟨rfl, ?_⟩
    exact ⟨_, hΦ, trivial, rfl, rfl⟩

end
end Tx
namespace Tx
open PySem PySem.Spec PyProof.Rows L2 TL
set_option maxRecDepth 100000
def d_pair_of : He.DefD := ⟨("pair_of", none), "pair_of", "pair_of", defArgs s_pair_of, defBody s_pair_of, defScope s_pair_of, [], []⟩
def d_need_faces : He.DefD := ⟨("need_faces", none), "need_faces", "need_faces", defArgs s_need_faces, defBody s_need_faces, defScope s_need_faces, [], []⟩
def d_ways_row : He.DefD := ⟨("ways_row", none), "ways_row", "ways_row", defArgs s_ways_row, defBody s_ways_row, defScope s_ways_row, [], []⟩
def d_how_many : He.DefD := ⟨("how_many", none), "how_many", "how_many", defArgs s_how_many, defBody s_how_many, defScope s_how_many, [], []⟩
def d_cut_by : He.DefD := ⟨("cut_by", none), "cut_by", "cut_by", defArgs s_cut_by, defBody s_cut_by, defScope s_cut_by, [], []⟩
def d_plan_numbered : He.DefD := ⟨("plan_numbered", none), "plan_numbered", "plan_numbered", defArgs s_plan_numbered, defBody s_plan_numbered, defScope s_plan_numbered, [], []⟩
def d_unlike : He.DefD := ⟨("unlike", none), "unlike", "unlike", defArgs s_unlike, defBody s_unlike, defScope s_unlike, [], []⟩
def d__law_bag : He.DefD := ⟨("_law_bag", none), "_law_bag", "_law_bag", defArgs s__law_bag, defBody s__law_bag, defScope s__law_bag, [], []⟩
def d__law_count_word : He.DefD := ⟨("_law_count_word", none), "_law_count_word", "_law_count_word", defArgs s__law_count_word, defBody s__law_count_word, defScope s__law_count_word, [], []⟩
def d__law_pull : He.DefD := ⟨("_law_pull", none), "_law_pull", "_law_pull", defArgs s__law_pull, defBody s__law_pull, defScope s__law_pull, [], []⟩
def d__law_ways : He.DefD := ⟨("_law_ways", none), "_law_ways", "_law_ways", defArgs s__law_ways, defBody s__law_ways, defScope s__law_ways, [], []⟩
def d_law : He.DefD := ⟨("law", none), "law", "law", defArgs s_law, defBody s_law, defScope s_law, [], []⟩
def fn : List He.DefD := [d_pair_of, d_need_faces, d_ways_row, d_how_many, d_cut_by, d_plan_numbered, d_unlike, d__law_bag, d__law_count_word, d__law_pull, d__law_ways, d_law]
def fa : List He.Fa := [.glo "pair_of",
  .glo "need_faces",
  .glo "ways_row",
  .glo "how_many",
  .glo "cut_by",
  .glo "plan_numbered",
  .glo "unlike",
  .glo "_law_bag",
  .glo "_law_count_word",
  .glo "_law_pull",
  .glo "_law_ways",
  .glo "law",
  .glo "PinchError",
  .glo "BadFaces",
  .glo "BadNumber",
  .free "abs",
  .free "int",
  .free "len",
  .free "max",
  .free "min",
  .free "range",
  .free "sorted",
  .free "sum",
  .free "tuple",
  .int "LEAST" 3,
  .int "MOST" 40,
  .exc "PinchError",
  .exc "BadFaces",
  .exc "BadNumber",
  .exm "BadFaces" "BadFaces" true,
  .exm "BadFaces" "BadNumber" false,
  .exm "BadFaces" "PinchError" true,
  .exm "BadNumber" "BadFaces" false,
  .exm "BadNumber" "BadNumber" true,
  .exm "BadNumber" "PinchError" true]
abbrev R : PySem.W.OpenRow := PySem.W.OpenLaw.row PySem.Challenge.rw_pinchfold_k10_counts_refused
abbrev hk : PySem.W.Hook := He.hookD 4 fa fn
def ob (s : PySem.W.SharedT) : He.AlD := He.obsDG 4 fa fn (HandSHeadRun.getT s)
theorem ob_eq (s : PySem.W.SharedT) : ob s = hk.obs s.abs := He.obsDG_eq (HandSHeadRun.getT_eq s)
def loose : List PySem.Str := (["PinchError", "BadFaces", "BadNumber", "LEAST", "MOST", "pair_of", "need_faces", "ways_row", "how_many", "cut_by", "plan_numbered", "unlike", "_law_bag", "_law_count_word", "_law_pull", "_law_ways"] : List PySem.Str)
theorem run (w : World) : HandSHeadRun.RunEq R (PySem.W.view R.prog [20]) hk ob 1500 loose w := by
  intro os
  kernel_rfl

theorem facts {P : Program} {w : World} {K : PySem.W.Frag} {h : Heap} {mg : Str → Option Value} {f : Addr} (X : K.In h) (G : h.Ns mainGlobals mg) (hfa : mg ("law" : Str) = some (.ref f)) (c : He.SaysD fa fn K) :
    ∃ fd : FuncData, (∀ (s : Shared) (v : Value), BindsTo s fd ⟨[v], []⟩ [("_law_script", v)]) ∧ ∀ base : Heap, K.In base → base.Ns mainGlobals mg → FnOk P w K mg base (L2.CX P w) 44 f fd ["_law_script"] (spOf K 1 cLaw) := by
  obtain ⟨fd_pair_of, F_pair_of⟩ := c.def_ 0 (d := d_pair_of) rfl
  obtain ⟨fd_need_faces, F_need_faces⟩ := c.def_ 1 (d := d_need_faces) rfl
  obtain ⟨fd_ways_row, F_ways_row⟩ := c.def_ 2 (d := d_ways_row) rfl
  obtain ⟨fd_how_many, F_how_many⟩ := c.def_ 3 (d := d_how_many) rfl
  obtain ⟨fd_cut_by, F_cut_by⟩ := c.def_ 4 (d := d_cut_by) rfl
  obtain ⟨fd_plan_numbered, F_plan_numbered⟩ := c.def_ 5 (d := d_plan_numbered) rfl
  obtain ⟨fd_unlike, F_unlike⟩ := c.def_ 6 (d := d_unlike) rfl
  obtain ⟨fd__law_bag, F__law_bag⟩ := c.def_ 7 (d := d__law_bag) rfl
  obtain ⟨fd__law_count_word, F__law_count_word⟩ := c.def_ 8 (d := d__law_count_word) rfl
  obtain ⟨fd__law_pull, F__law_pull⟩ := c.def_ 9 (d := d__law_pull) rfl
  obtain ⟨fd__law_ways, F__law_ways⟩ := c.def_ 10 (d := d__law_ways) rfl
  obtain ⟨fd_law, F_law⟩ := c.def_ 11 (d := d_law) rfl
  have e := hfa.symm.trans (He.glo_ok X G (c.fact 11 (f := .glo "law") rfl))
  cases e
  have bl := FunD.bindsA (ps := ["_law_script"]) F_law fun _ _ _ _ _ _ us hl => match us, hl with | [_], _ => rfl
  refine ⟨fd_law, fun s v => bl s [v] rfl, fun base _ _ => ?_⟩
  have h_need_faces := ok_need_faces (P := P) (w := w) (K := K) (mg := mg) (base := base) (k := 0) F_need_faces (He.glo_ok X G (c.fact 1 (f := .glo "need_faces") rfl)) (F_need_faces.bindsN fun _ _ _ _ _ _ us hl => match us, hl with | [_], _ => rfl) (He.int_ok X G (c.fact 24 (f := .int "LEAST" 3) rfl)) (He.int_ok X G (c.fact 25 (f := .int "MOST" 40) rfl)) (exk_of (He.glo_ok X G (c.fact 13 (f := .glo "BadFaces") rfl)) (He.exc_ok (c.fact 27 (f := .exc "BadFaces") rfl)))
  have h_pair_of := ok_pair_of (P := P) (w := w) (K := K) (mg := mg) (base := base) (k := 0) F_pair_of (He.glo_ok X G (c.fact 0 (f := .glo "pair_of") rfl)) (F_pair_of.bindsN fun _ _ _ _ _ _ us hl => match us, hl with | [_, _], _ => rfl) (He.free_ok X G (c.fact 19 (f := .free "min") rfl)) (He.free_ok X G (c.fact 18 (f := .free "max") rfl))
  have h_ways_row := ok_ways_row (P := P) (w := w) (K := K) (mg := mg) (base := base) (k := 0) F_ways_row (He.glo_ok X G (c.fact 2 (f := .glo "ways_row") rfl)) (F_ways_row.bindsN fun _ _ _ _ _ _ us hl => match us, hl with | [_], _ => rfl) (He.free_ok X G (c.fact 17 (f := .free "len") rfl)) (He.free_ok X G (c.fact 22 (f := .free "sum") rfl)) (He.free_ok X G (c.fact 20 (f := .free "range") rfl))
  have h_how_many := ok_how_many (P := P) (w := w) (K := K) (mg := mg) (base := base) (k := 1) F_how_many (He.glo_ok X G (c.fact 3 (f := .glo "how_many") rfl)) (F_how_many.bindsN fun _ _ _ _ _ _ us hl => match us, hl with | [_], _ => rfl) (Nat.le_refl _) (h_need_faces.mono (by decide)) (h_ways_row.mono (by decide))
  have h_cut_by := ok_cut_by (P := P) (w := w) (K := K) (mg := mg) (base := base) F_cut_by (He.glo_ok X G (c.fact 4 (f := .glo "cut_by") rfl)) (F_cut_by.bindsN fun _ _ _ _ _ _ us hl => match us, hl with | [_, _, _, _], _ => rfl) 0 40
  have h_plan_numbered := ok_plan_numbered (P := P) (w := w) (K := K) (mg := mg) (base := base) (k := 41) F_plan_numbered (He.glo_ok X G (c.fact 5 (f := .glo "plan_numbered") rfl)) (F_plan_numbered.bindsN fun _ _ _ _ _ _ us hl => match us, hl with | [_, _], _ => rfl) (Nat.le_refl _) (Nat.le_refl _) (h_need_faces.mono (by decide)) (h_ways_row.mono (by decide)) (exk_of (He.glo_ok X G (c.fact 14 (f := .glo "BadNumber") rfl)) (He.exc_ok (c.fact 28 (f := .exc "BadNumber") rfl))) (h_pair_of.mono (by decide)) (He.free_ok X G (c.fact 23 (f := .free "tuple") rfl)) (h_cut_by.mono (by decide)) (He.free_ok X G (c.fact 21 (f := .free "sorted") rfl))
  have h_unlike := ok_unlike (P := P) (w := w) (K := K) (mg := mg) (base := base) (k := 1) F_unlike (He.glo_ok X G (c.fact 6 (f := .glo "unlike") rfl)) (F_unlike.bindsN fun _ _ _ _ _ _ us hl => match us, hl with | [_], _ => rfl) (Nat.le_refl _) (h_need_faces.mono (by decide)) (h_ways_row.mono (by decide))
  have h__law_bag := ok__law_bag (P := P) (w := w) (K := K) (mg := mg) (base := base) (k := 0) F__law_bag (He.glo_ok X G (c.fact 7 (f := .glo "_law_bag") rfl)) (F__law_bag.bindsN fun _ _ _ _ _ _ us hl => match us, hl with | [_], _ => rfl) (He.free_ok X G (c.fact 17 (f := .free "len") rfl)) (He.free_ok X G (c.fact 15 (f := .free "abs") rfl)) (He.free_ok X G (c.fact 16 (f := .free "int") rfl))
  have h__law_pull := ok__law_pull (P := P) (w := w) (K := K) (mg := mg) (base := base) (k := 0) F__law_pull (He.glo_ok X G (c.fact 9 (f := .glo "_law_pull") rfl)) (F__law_pull.bindsN fun _ _ _ _ _ _ us hl => match us, hl with | [_, _], _ => rfl) (He.free_ok X G (c.fact 17 (f := .free "len") rfl))
  have h__law_ways := ok__law_ways (P := P) (w := w) (K := K) (mg := mg) (base := base) (k := 0) F__law_ways (He.glo_ok X G (c.fact 10 (f := .glo "_law_ways") rfl)) (F__law_ways.bindsN fun _ _ _ _ _ _ us hl => match us, hl with | [_], _ => rfl) (He.free_ok X G (c.fact 20 (f := .free "range") rfl))
  have h__law_count_word := ok__law_count_word (P := P) (w := w) (K := K) (mg := mg) (base := base) (k := 42) F__law_count_word (He.glo_ok X G (c.fact 8 (f := .glo "_law_count_word") rfl)) (F__law_count_word.bindsN fun _ _ _ _ _ _ us hl => match us, hl with | [_, _, _], _ => rfl) (Nat.le_refl _) (exk_of (He.glo_ok X G (c.fact 13 (f := .glo "BadFaces") rfl)) (He.exc_ok (c.fact 27 (f := .exc "BadFaces") rfl))) (exk_of (He.glo_ok X G (c.fact 14 (f := .glo "BadNumber") rfl)) (He.exc_ok (c.fact 28 (f := .exc "BadNumber") rfl))) (He.glo_ok X G (c.fact 12 (f := .glo "PinchError") rfl)) (He.exm_ok (c.fact 29 (f := .exm "BadFaces" "BadFaces" true) rfl)) (He.exm_ok (c.fact 32 (f := .exm "BadNumber" "BadFaces" false) rfl)) (He.exm_ok (c.fact 33 (f := .exm "BadNumber" "BadNumber" true) rfl)) (h_how_many.mono (by decide)) (h_plan_numbered.mono (by decide)) (h_unlike.mono (by decide))
  exact ok_law (P := P) (w := w) (K := K) (mg := mg) (base := base) (k := 43) F_law (Nat.le_refl _) (h__law_bag.mono (by decide)) (h__law_ways.mono (by decide)) (He.free_ok X G (c.fact 20 (f := .free "range") rfl)) (h__law_pull.mono (by decide)) (He.free_ok X G (c.fact 16 (f := .free "int") rfl)) (h__law_count_word.mono (by decide))
end Tx
open PySem PySem.W PySem.Calls PyProof.Rows
theorem PySem.Challenge.cw_pinchfold_k10_counts_refused_holds : PySem.Challenge.rw_pinchfold_k10_counts_refused.Holds := by
  w_on; o_law
  refine HandSHeadRun.head_any (r := OpenLaw.row PySem.Challenge.rw_pinchfold_k10_counts_refused) (q := view (OpenLaw.row PySem.Challenge.rw_pinchfold_k10_counts_refused).prog [20]) (H := Tx.hk) (ob := Tx.ob) (M := 1500) (loose := Tx.loose) (d := HandSHeadRun.topDef (OpenLaw.row PySem.Challenge.rw_pinchfold_k10_counts_refused).prog 20) (kwd := []) Tx.ob_eq
    (by kernel_rfl) (fun s => by kernel_rfl) Tx.run (by kernel_rfl) (by kernel_rfl) (by kernel_rfl) (by rfl) (by first | assumption | decide +kernel) (by decide +kernel) ⟨rfl, rfl, rfl, rfl, rfl, by decide +kernel⟩ ?hw ?hc
  case hw => w_witness2
  case hc =>
    refine TL.walk_x (l := PySem.Challenge.rw_pinchfold_k10_counts_refused) (m := 63) (j := 44) (x := "_law_script") rfl (by decide) (by kernel_rfl) ⟨rfl, by decide, by decide⟩ ?_
    intro w mg fa h Y G hmg0
    obtain ⟨K, KX, c⟩ := Y
    have hmg : mg ("law" : PySem.Str) = some (.ref fa) := by
      have e : (HandSHeadRun.topDef (OpenLaw.row PySem.Challenge.rw_pinchfold_k10_counts_refused).prog 20).name = ("law" : PySem.Str) := by kernel_rfl
      rw [← e]
      exact hmg0
    obtain ⟨fd, hb, hF⟩ := Tx.facts (P := (PySem.Challenge.rw_pinchfold_k10_counts_refused).prog) (w := w) KX G hmg c
    exact ⟨K, fd, _, KX, hb, fun H a ns hl hS => TL.law_sp hl hS, hF⟩
